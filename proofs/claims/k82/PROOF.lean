import PyProof.Rows.All
import Wide.All
import OpenK.AllK
import Wide.FinOn
import HandS.ForMost
import HandS.ForExc
import HandS.IsInst
import HandS.TupAny
import HandS.TupLe
import HandS.Wide
import KE.DataCmp
import HandS.SortInts
import HandS.CallSlots
import HandS.Walk
import HandS.NoneIn
import HandS.Rev
import HandS.RevRange
import HandS.Zip
import KE.GoesMore
import KE.GoesEnum
import HandS.Defaults
import HandS.ExcIs
import HandS.ExcField
import KE.KExcIs
import HandS.More
import HandS.Deep
import HandS.Small
import KE.DataMinMax
import KE.SortData
import KE.KTupSum
import HandS.ExcInit
import HandS.SetKeys
import PyProof.DictMoreH
import HandS.HeadHook2
import HandS.SetFor
import HandS.Strs
import HandS.Style
import HandS.SortKw
import HandS.HeadEnd
import HandS.EndBits
import HandS.Head0
import HandS.Head1
import HandS.Head2
import PySem.Challenge.RW_lettertoll_k82_ends_of_knots
set_option Elab.async false
set_option linter.all false
set_option maxHeartbeats 4000000
set_option maxRecDepth 100000
set_option synthInstance.maxHeartbeats 0
set_option synthInstance.maxSize 100000
namespace FL
open PySem L2

abbrev Ex := L2.Same
theorem Ex.refl (H : Hp) : Ex H H := fun _ _ h => h
theorem Ex.trans {H H1 H2 : Hp} (a : Ex H H1) (b : Ex H1 H2) : Ex H H2 := fun x o h => b x o (a x o h)
theorem Ex.new {H : Hp} {p : Addr} {o : HO} (h : H p = none) : Ex H (upd H p o) := fun a u e => by
  rw [upd_ne (ne_of_none e h)]
  exact e
theorem sqt_mono {K : PySem.W.Frag} {H H' : Hp} {a : Addr} {xs : List V} (e : Ex H H') (h : SqT K H a xs) : SqT K H' a xs := by
  rcases h with (h | ⟨o, h⟩) | h
  · exact .inl (.inl (e _ _ h))
  · exact .inl (.inr ⟨o, e _ _ h⟩)
  · exact .inr h
theorem sql_mono {K : PySem.W.Frag} {H H' : Hp} {a : Addr} {xs : List V} (e : Ex H H') (h : SqL K H a xs) : SqL K H' a xs := L2.Same.seq e h

inductive Tag where
  | lst | dct (ks : List Key) | dcT (ks : List (List Key)) | ins (C : Addr) (ns : List Str)

def Holds : Tag → List V → HO → Prop
  | .lst, xs, o => o = .lst xs
  | .dct ks, xs, o => ks.length = xs.length ∧ o = .dK (ks.zip xs)
  | .dcT ks, xs, o => ks.length = xs.length ∧ o = .dT (ks.zip xs)
  | .ins C ns, xs, o => ns.length = xs.length ∧ ∃ dx, o = .ins C dx (ns.zip xs)

inductive D where
  | non | bl (b : Bool) | int (i : Int) | str (s : Str)
  | tup (l : List D) | lst (l : List D) | scr (l : List D) | obj (t : Tag) (l : List D)
  /-- an exception that a suite holds: where, its dict, its fields -/
  | exn (a : Addr) (dx : Option Addr) (ns : List Str) (l : List D)

inductive O where
  | dat (d : D)
  | node (t : Tag) (l : List O)
  /-- a new tuple, own things within -/
  | pck (l : List O)

section
variable (K : PySem.W.Frag)
mutual
inductive IsD (G : Hp) : V → D → Prop
  | non : IsD G .non .non
  | bl (b : Bool) : IsD G (.bl b) (.bl b)
  | int (i : Int) : IsD G (.int i) (.int i)
  | str (s : Str) : IsD G (.str s) (.str s)
  | tup {a : Addr} {xs : List V} {l : List D} : G a = some (.tup xs) → IsDs G xs l → IsD G (.ref a) (.tup l)
  | lst {a : Addr} {xs : List V} {l : List D} : G a = some (.lst xs) → IsDs G xs l → IsD G (.ref a) (.lst l)
  | scr {a : Addr} {xs : List V} {l : List D} : SqL K G a xs → IsDs G xs l → IsD G (.ref a) (.scr l)
  | obj {a : Addr} {ho : HO} {t : Tag} {xs : List V} {l : List D} : G a = some ho → Holds t xs ho → IsDs G xs l → IsD G (.ref a) (.obj t l)
  | exn {a : Addr} {dx : Option Addr} {ns : List Str} {xs : List V} {l : List D} : ns.length = xs.length → (ns ≠ [] → ∃ x, dx = some x ∧ G x = some (.xd (ns.zip xs))) → IsDs G xs l → IsD G (.ref a) (.exn a dx ns l)
inductive IsDs (G : Hp) : List V → List D → Prop
  | nil : IsDs G [] []
  | cons {v : V} {d : D} {vs : List V} {ds : List D} : IsD G v d → IsDs G vs ds → IsDs G (v :: vs) (d :: ds)
end
mutual
inductive Rep (G H : Hp) : V → O → List Addr → Prop
  | dat {v : V} {d : D} : IsD K G v d → Rep G H v (.dat d) []
  | node {a : Addr} {ho : HO} {t : Tag} {xs : List V} {l : List O} {f : List Addr} : H a = some ho → Holds t xs ho → Reps G H xs l f → Rep G H (.ref a) (.node t l) (a :: f)
  | pck {a : Addr} {xs : List V} {l : List O} {f : List Addr} : G a = some (.tup xs) → Reps G H xs l f → Rep G H (.ref a) (.pck l) f
inductive Reps (G H : Hp) : List V → List O → List Addr → Prop
  | nil : Reps G H [] [] []
  | cons {v : V} {o : O} {f : List Addr} {vs : List V} {os : List O} {fs : List Addr} : Rep G H v o f → Reps G H vs os fs → Reps G H (v :: vs) (o :: os) (f ++ fs)
end
abbrev Env := List (Option O)
inductive RepE (G H : Hp) : L2.St → Env → List Addr → Prop
  | nil : RepE G H [] [] []
  | no {x : Option V} {σ : L2.St} {ρ : Env} {f : List Addr} : RepE G H σ ρ f → RepE G H (x :: σ) (none :: ρ) f
  | yes {v : V} {o : O} {σ : L2.St} {ρ : Env} {f fs : List Addr} : Rep K G H v o f → RepE G H σ ρ fs → RepE G H (some v :: σ) (some o :: ρ) (f ++ fs)
end

section
variable {K : PySem.W.Frag} {G G' H H' : Hp}
mutual
theorem IsD.mono (e : Ex G G') : ∀ {v : V} {d : D}, IsD K G v d → IsD K G' v d
  | _, _, .non => .non
  | _, _, .bl b => .bl b
  | _, _, .int i => .int i
  | _, _, .str s => .str s
  | _, _, .tup h hs => .tup (e _ _ h) (IsDs.mono e hs)
  | _, _, .lst h hs => .lst (e _ _ h) (IsDs.mono e hs)
  | _, _, .scr h hs => .scr (sql_mono e h) (IsDs.mono e hs)
  | _, _, .obj h q hs => .obj (e _ _ h) q (IsDs.mono e hs)
  | _, _, .exn h q hs => .exn h (fun n => let ⟨x, e1, e2⟩ := q n; ⟨x, e1, e _ _ e2⟩) (IsDs.mono e hs)
theorem IsDs.mono (e : Ex G G') : ∀ {vs : List V} {ds : List D}, IsDs K G vs ds → IsDs K G' vs ds
  | _, _, .nil => .nil
  | _, _, .cons h t => .cons (IsD.mono e h) (IsDs.mono e t)
end
theorem IsDs.length : ∀ {vs : List V} {ds : List D}, IsDs K G vs ds → vs.length = ds.length
  | _, _, .nil => rfl
  | _, _, .cons _ t => by simp [IsDs.length t]
theorem IsDs.get : ∀ {vs : List V} {ds : List D} {i : Nat} {d : D}, IsDs K G vs ds → ds[i]? = some d → ∃ v, vs[i]? = some v ∧ IsD K G v d
  | _, _, _, _, .nil, e => by simp at e
  | _, _, 0, _, .cons h _, e => by simp at e; subst e; exact ⟨_, rfl, h⟩
  | _, _, i + 1, d, .cons _ t, e => by
    obtain ⟨v, h1, h2⟩ := IsDs.get (i := i) (d := d) t (by simpa using e)
    exact ⟨v, by simpa using h1, h2⟩
theorem IsDs.getV : ∀ {vs : List V} {ds : List D} {i : Nat} {v : V}, IsDs K G vs ds → vs[i]? = some v → ∃ d, ds[i]? = some d ∧ IsD K G v d
  | _, _, _, _, .nil, e => by simp at e
  | _, _, 0, _, .cons h _, e => by simp at e; subst e; exact ⟨_, rfl, h⟩
  | _, _, i + 1, d, .cons _ t, e => by
    obtain ⟨v, h1, h2⟩ := IsDs.getV (i := i) t (by simpa using e)
    exact ⟨v, by simpa using h1, h2⟩
theorem IsDs.append : ∀ {vs ws : List V} {ds es : List D}, IsDs K G vs ds → IsDs K G ws es → IsDs K G (vs ++ ws) (ds ++ es)
  | _, _, _, _, .nil, s => s
  | _, _, _, _, .cons h t, s => .cons h (IsDs.append t s)
theorem IsDs.take : ∀ {vs : List V} {ds : List D} (n : Nat), IsDs K G vs ds → IsDs K G (vs.take n) (ds.take n)
  | _, _, 0, _ => .nil
  | _, _, _ + 1, .nil => .nil
  | _, _, n + 1, .cons h t => .cons h (IsDs.take n t)
theorem IsDs.drop : ∀ {vs : List V} {ds : List D} (n : Nat), IsDs K G vs ds → IsDs K G (vs.drop n) (ds.drop n)
  | _, _, 0, h => h
  | _, _, _ + 1, .nil => .nil
  | _, _, n + 1, .cons _ t => IsDs.drop n t
theorem IsDs.reverse {vs : List V} {ds : List D} (h : IsDs K G vs ds) : IsDs K G vs.reverse ds.reverse := by
  induction vs generalizing ds with
  | nil => cases h; exact .nil
  | cons v vs ih =>
    cases h with
    | cons a t => rw [List.reverse_cons, List.reverse_cons]; exact (ih t).append (.cons a .nil)
theorem Holds.ne_tup {t : Tag} {xs ys : List V} {ho : HO} (h : Holds t xs ho) : ho ≠ .tup ys := by
  intro e; subst e
  cases t with
  | lst => cases h
  | dct ks => cases h.2
  | dcT ks => cases h.2
  | ins C ns => obtain ⟨_, _, h⟩ := h; cases h
theorem Holds.ne_frz {t : Tag} {xs : List V} {ho u : HO} {o : Obj} (h : Holds t xs ho) : ho ≠ .frz o u := by
  intro e; subst e
  cases t with
  | lst => cases h
  | dct ks => cases h.2
  | dcT ks => cases h.2
  | ins C ns => obtain ⟨_, _, h⟩ := h; cases h
mutual
theorem Rep.mono (e : Ex G G') : ∀ {v : V} {o : O} {f : List Addr}, Rep K G H v o f → (∀ a ∈ f, ∀ u, H a = some u → H' a = some u) → Rep K G' H' v o f
  | _, _, _, .dat h, _ => .dat (h.mono e)
  | _, _, _, .node h q hs, k => .node (k _ (by simp) _ h) q (Reps.mono e hs fun a ha => k a (List.mem_cons_of_mem _ ha))
  | _, _, _, .pck h hs, k => .pck (e _ _ h) (Reps.mono e hs k)
theorem Reps.mono (e : Ex G G') : ∀ {vs : List V} {os : List O} {f : List Addr}, Reps K G H vs os f → (∀ a ∈ f, ∀ u, H a = some u → H' a = some u) → Reps K G' H' vs os f
  | _, _, _, .nil, _ => .nil
  | _, _, _, .cons h t, k => .cons (Rep.mono e h fun a ha => k a (List.mem_append_left _ ha)) (Reps.mono e t fun a ha => k a (List.mem_append_right _ ha))
end
mutual
theorem Rep.live : ∀ {v : V} {o : O} {f : List Addr}, Rep K G H v o f → ∀ a ∈ f, ∃ u, H a = some u ∧ (∀ ys, u ≠ .tup ys) ∧ ∀ ob u', u ≠ .frz ob u'
  | _, _, _, .dat h, a, ha => by cases ha
  | _, _, _, .node h q hs, a, ha => by
    rcases List.mem_cons.mp ha with rfl | ha
    · exact ⟨_, h, fun _ => q.ne_tup, fun _ _ => q.ne_frz⟩
    · exact Reps.live hs a ha
  | _, _, _, .pck h hs, a, ha => Reps.live hs a ha
theorem Reps.live : ∀ {vs : List V} {os : List O} {f : List Addr}, Reps K G H vs os f → ∀ a ∈ f, ∃ u, H a = some u ∧ (∀ ys, u ≠ .tup ys) ∧ ∀ ob u', u ≠ .frz ob u'
  | _, _, _, .nil, a, ha => by cases ha
  | _, _, _, .cons h t, a, ha => by
    rcases List.mem_append.mp ha with ha | ha
    · exact Rep.live h a ha
    · exact Reps.live t a ha
end
theorem RepE.mono (e : Ex G G') : ∀ {σ : L2.St} {ρ : Env} {f : List Addr}, RepE K G H σ ρ f → (∀ a ∈ f, ∀ u, H a = some u → H' a = some u) → RepE K G' H' σ ρ f
  | _, _, _, .nil, _ => .nil
  | _, _, _, .no t, k => .no (RepE.mono e t k)
  | _, _, _, .yes h t, k => .yes (h.mono e fun a ha => k a (List.mem_append_left _ ha)) (RepE.mono e t fun a ha => k a (List.mem_append_right _ ha))
theorem RepE.live : ∀ {σ : L2.St} {ρ : Env} {f : List Addr}, RepE K G H σ ρ f → ∀ a ∈ f, ∃ u, H a = some u ∧ (∀ ys, u ≠ .tup ys) ∧ ∀ ob u', u ≠ .frz ob u'
  | _, _, _, .nil, a, ha => by cases ha
  | _, _, _, .no t, a, ha => RepE.live t a ha
  | _, _, _, .yes h t, a, ha => by
    rcases List.mem_append.mp ha with ha | ha
    · exact h.live a ha
    · exact RepE.live t a ha
theorem RepE.length : ∀ {σ : L2.St} {ρ : Env} {f : List Addr}, RepE K G H σ ρ f → σ.length = ρ.length
  | _, _, _, .nil => rfl
  | _, _, _, .no t => by simp [RepE.length t]
  | _, _, _, .yes h t => by simp [RepE.length t]
theorem RepE.at : ∀ {σ : L2.St} {ρ : Env} {f : List Addr} {i : Nat} {o : O}, RepE K G H σ ρ f → ρ[i]? = some (some o) →
    ∃ v f1 pre post, σ[i]? = some (some v) ∧ Rep K G H v o f1 ∧ f = pre ++ f1 ++ post
  | _, _, _, _, _, .nil, e => by simp at e
  | _, _, _, 0, _, .no t, e => by simp at e
  | _, _, _, 0, _, .yes (f := f) (fs := fs) h t, e => by simp at e; subst e; exact ⟨_, f, [], fs, rfl, h, by simp⟩
  | _, _, _, i + 1, o, .no t, e => by
    obtain ⟨v, f1, pre, post, h1, h2, h3⟩ := RepE.at (i := i) (o := o) t (by simpa using e)
    exact ⟨v, f1, pre, post, by simpa using h1, h2, h3⟩
  | _, _, _, i + 1, o, .yes (f := f) h t, e => by
    obtain ⟨v, f1, pre, post, h1, h2, h3⟩ := RepE.at (i := i) (o := o) t (by simpa using e)
    exact ⟨v, f1, f ++ pre, post, by simpa using h1, h2, by rw [h3]; simp [List.append_assoc]⟩
theorem RepE.put {v' : V} {o' : O} {f' : List Addr} (r : Rep K G H v' o' f') : ∀ {σ : L2.St} {ρ : Env} {f : List Addr} (i : Nat), i < ρ.length → RepE K G H σ ρ f →
    ∃ pre f1 post, f = pre ++ f1 ++ post ∧ RepE K G H (σ.set i (some v')) (ρ.set i (some o')) (pre ++ f' ++ post)
  | _, _, _, _, l, .nil => by simp at l
  | _, _, _, 0, l, .no (f := f) t => ⟨[], [], f, by simp, by simpa using RepE.yes r t⟩
  | _, _, _, 0, l, .yes (f := f) (fs := fs) h t => ⟨[], f, fs, by simp, by simpa using RepE.yes r t⟩
  | _, _, _, i + 1, l, .no t => by
    obtain ⟨pre, f1, post, e, q⟩ := RepE.put r i (by simpa using l) t
    exact ⟨pre, f1, post, e, by simpa using RepE.no q⟩
  | _, _, _, i + 1, l, .yes (f := f) h t => by
    obtain ⟨pre, f1, post, e, q⟩ := RepE.put r i (by simpa using l) t
    exact ⟨f ++ pre, f1, post, by rw [e]; simp [List.append_assoc], by
      have z := RepE.yes h q
      simpa [List.append_assoc] using z⟩
theorem RepE.drop : ∀ {σ : L2.St} {ρ : Env} {f : List Addr} (i : Nat) (x : Option V), RepE K G H σ ρ f →
    ∃ pre f1 post, f = pre ++ f1 ++ post ∧ RepE K G H (σ.set i x) (ρ.set i none) (pre ++ post)
  | _, _, _, _, _, .nil => ⟨[], [], [], rfl, .nil⟩
  | _, _, _, 0, x, .no (f := f) t => ⟨[], [], f, by simp, by simpa using RepE.no t⟩
  | _, _, _, 0, x, .yes (f := f) (fs := fs) h t => ⟨[], f, fs, by simp, by simpa using RepE.no t⟩
  | _, _, _, i + 1, x, .no t => by
    obtain ⟨pre, f1, post, e, q⟩ := RepE.drop i x t
    exact ⟨pre, f1, post, e, by simpa using RepE.no q⟩
  | _, _, _, i + 1, x, .yes (f := f) h t => by
    obtain ⟨pre, f1, post, e, q⟩ := RepE.drop i x t
    exact ⟨f ++ pre, f1, post, by rw [e]; simp [List.append_assoc], by
      have z := RepE.yes h q
      simpa [List.append_assoc] using z⟩

structure Conf (K : PySem.W.Frag) (G H : Hp) (σ : L2.St) (ρ : Env) (fp : List Addr) : Prop where
  ex : Ex G H
  rep : RepE K G H σ ρ fp
  nd : fp.Nodup
  fr : ∀ a ∈ fp, G a = none
abbrev NotT (u : HO) : Prop := (∀ ys, u ≠ .tup ys) ∧ ∀ ob u', u ≠ .frz ob u'
structure Gr (G H G' : Hp) : Prop where
  ex : Ex G G'
  old : ∀ a u, H a = some u → NotT u → G a = none → G' a = none
theorem Gr.refl : Gr G H G := ⟨Ex.refl _, fun _ _ _ _ h => h⟩
theorem Gr.trans {G1 G2 H1 : Hp} (a : Gr G H G1) (e : Ex H H1) (b : Gr G1 H1 G2) : Gr G H G2 :=
  ⟨a.ex.trans b.ex, fun x u h t n => b.old x u (e x u h) t (a.old x u h t n)⟩
theorem Gr.new {p : Addr} {o : HO} (h : H p = none) (g : Ex G H) : Gr G H (upd G p o) := by
  have gp : G p = none := L2.Same.free g h
  exact ⟨Ex.new gp, fun a u e _ n => by rw [upd_ne (ne_of_none e h)]; exact n⟩
theorem Ex.upd2 {p : Addr} {o : HO} (g : Ex G H) (h : H p = none) : Ex (upd G p o) (upd H p o) := fun a u e => by
  by_cases z : a = p
  · subst z; rw [upd_same] at e ⊢; exact e
  · rw [upd_ne z] at e ⊢; exact g a u e
theorem Conf.grow {σ : L2.St} {ρ : Env} {fp : List Addr} (c : Conf K G H σ ρ fp) (g : Gr G H G') (e : Ex H H') (x : Ex G' H') : Conf K G' H' σ ρ fp :=
  ⟨x, c.rep.mono g.ex fun a _ u h => e a u h, c.nd, fun a ha => by
    obtain ⟨u, h, t⟩ := c.rep.live a ha
    exact g.old a u h t (c.fr a ha)⟩
def fz (G H : Hp) (f : List Addr) : Hp := fun a => if a ∈ f then H a else G a
theorem fz_ex {f : List Addr} (h : ∀ a ∈ f, G a = none) : Ex G (fz G H f) := fun a u e => by
  unfold fz
  by_cases z : a ∈ f
  · rw [h a z] at e; cases e
  · rw [if_neg z]; exact e
theorem fz_in {f : List Addr} (g : Ex G H) : Ex (fz G H f) H := fun a u e => by
  unfold fz at e
  by_cases z : a ∈ f
  · rw [if_pos z] at e; exact e
  · rw [if_neg z] at e; exact g a u e
theorem fz_at {f : List Addr} {a : Addr} (h : a ∈ f) : fz G H f a = H a := by unfold fz; rw [if_pos h]
theorem fz_not {f : List Addr} {a : Addr} (h : a ∉ f) : fz G H f a = G a := by unfold fz; rw [if_neg h]
mutual
def freeze : O → Option D
  | .dat d => some d
  | .node t l => match freezes l with
    | none => none
    | some ds => some (match t with | .lst => .lst ds | t => .obj t ds)
  | .pck l => match freezes l with
    | none => none
    | some ds => some (.tup ds)
def freezes : List O → Option (List D)
  | [] => some []
  | o :: os => match freeze o, freezes os with
    | some d, some ds => some (d :: ds)
    | _, _ => none
end
mutual
theorem Rep.freeze : ∀ {v : V} {o : O} {f : List Addr} {d : D}, Rep K G H v o f → FL.freeze o = some d → ∀ g : List Addr, (∀ a ∈ f, a ∈ g) → (∀ a ∈ g, G a = none) → IsD K (fz G H g) v d
  | _, _, _, _, .dat h, e, g, s, n => by
    simp only [FL.freeze, Option.some.injEq] at e
    subst e
    exact h.mono (fz_ex n)
  | _, _, _, _, .node (t := t) (l := l) h q hs, e, g, s, n => by
    unfold FL.freeze at e
    cases z : freezes l with
    | none => rw [z] at e; cases e
    | some ds =>
      rw [z] at e
      have r := Reps.freeze hs z g (fun a ha => s a (List.mem_cons_of_mem _ ha)) n
      have hg := (fz_at (G := G) (H := H) (s _ List.mem_cons_self)).trans h
      cases t with
      | lst =>
        simp only [Option.some.injEq] at e
        subst e
        cases q
        exact .lst hg r
      | dct ks => simp only [Option.some.injEq] at e; subst e; exact .obj hg q r
      | dcT ks => simp only [Option.some.injEq] at e; subst e; exact .obj hg q r
      | ins C ns => simp only [Option.some.injEq] at e; subst e; exact .obj hg q r
  | _, _, _, _, .pck (l := l) h hs, e, g, s, n => by
    unfold FL.freeze at e
    cases z : freezes l with
    | none => rw [z] at e; cases e
    | some ds =>
      rw [z] at e
      simp only [Option.some.injEq] at e
      subst e
      exact .tup (fz_ex n _ _ h) (Reps.freeze hs z g s n)
theorem Reps.freeze : ∀ {vs : List V} {os : List O} {f : List Addr} {ds : List D}, Reps K G H vs os f → FL.freezes os = some ds → ∀ g : List Addr, (∀ a ∈ f, a ∈ g) → (∀ a ∈ g, G a = none) → IsDs K (fz G H g) vs ds
  | _, _, _, _, .nil, e, g, s, n => by
    simp only [FL.freezes, Option.some.injEq] at e
    subst e
    exact .nil
  | _, _, _, _, .cons (o := o) (os := os) h t, e, g, s, n => by
    unfold FL.freezes at e
    cases z1 : FL.freeze o with
    | none => rw [z1] at e; cases e
    | some d =>
      cases z2 : FL.freezes os with
      | none => rw [z1, z2] at e; cases e
      | some ds =>
        rw [z1, z2] at e
        simp only [Option.some.injEq] at e
        subst e
        exact .cons (Rep.freeze h z1 g (fun a ha => s a (List.mem_append_left _ ha)) n) (Reps.freeze t z2 g (fun a ha => s a (List.mem_append_right _ ha)) n)
end
end
end FL
namespace FL
open PySem L2

inductive Opd where
  | tmp (o : O)
  | plc (i : Nat) (p : List Nat)
inductive Rs (α : Type) where
  | ok (a : α)
  | exc (c : Str) (fs : List (Str × D))
  | bad
def Rs.bnd {α β : Type} (r : Rs α) (k : α → Rs β) : Rs β := match r with
  | .ok a => k a
  | .exc c fs => .exc c fs
  | .bad => .bad
@[simp] theorem Rs.bnd_ok {α β : Type} (a : α) (k : α → Rs β) : (Rs.ok a).bnd k = k a := rfl
@[simp] theorem Rs.bnd_exc {α β : Type} (c : Str) (fs : List (Str × D)) (k : α → Rs β) : (Rs.exc c fs : Rs α).bnd k = .exc c fs := rfl
@[simp] theorem Rs.bnd_bad {α β : Type} (k : α → Rs β) : (Rs.bad : Rs α).bnd k = .bad := rfl

def kids : HO → List V
  | .lst xs => xs
  | .tup xs => xs
  | .dK kvs => kvs.map (·.2)
  | .dT kvs => kvs.map (·.2)
  | .ins _ _ fs => fs.map (·.2)
  | _ => []
theorem zip_snd {α β : Type} : ∀ {ks : List α} {xs : List β}, ks.length = xs.length → (ks.zip xs).map (·.2) = xs
  | [], [], _ => rfl
  | _ :: ks, x :: xs, h => by
    have := zip_snd (ks := ks) (xs := xs) (by simpa using h)
    simp [this]
theorem Holds.kids {t : Tag} {xs : List V} {ho : HO} (h : Holds t xs ho) : kids ho = xs := by
  cases t with
  | lst => cases h; rfl
  | dct ks => obtain ⟨l, rfl⟩ := h; exact zip_snd l
  | dcT ks => obtain ⟨l, rfl⟩ := h; exact zip_snd l
  | ins C ns => obtain ⟨l, dx, rfl⟩ := h; exact zip_snd l
def At (H : Hp) : V → List Nat → V → Prop
  | v, [], w => v = w
  | v, k :: p, w => ∃ a ho v', v = .ref a ∧ H a = some ho ∧ (kids ho)[k]? = some v' ∧ At H v' p w
def O.at : O → List Nat → Option O
  | o, [] => some o
  | .node _ l, k :: p => match l[k]? with
    | some o => o.at p
    | none => none
  | .pck l, k :: p => match l[k]? with
    | some o => o.at p
    | none => none
  | .dat _, _ :: _ => none
theorem At.mono {H H' : Hp} (e : Ex H H') : ∀ {p : List Nat} {v w : V}, At H v p w → At H' v p w
  | [], _, _, h => h
  | _ :: _, _, _, ⟨a, ho, v', h1, h2, h3, h4⟩ => ⟨a, ho, v', h1, e _ _ h2, h3, h4.mono e⟩

section
variable (K : PySem.W.Frag)
def RO (G H : Hp) (σ : L2.St) (v : V) : Opd → List Addr → Prop
  | .tmp o, f => Rep K G H v o f
  | .plc i p, f => f = [] ∧ ∃ v0, σ[i]? = some (some v0) ∧ At H v0 p v
def RD (G H : Hp) (σ : L2.St) (v : V) (d : D) (f : List Addr) : Prop := f = [] ∧ IsD K G v d
def mkD : Tag → List D → D
  | .lst, ds => .lst ds
  | t, ds => .obj t ds
inductive RdV (G H : Hp) : V → D → Prop
  | dat {v : V} {d : D} : IsD K G v d → RdV G H v d
  | top {a : Addr} {ho : HO} {t : Tag} {xs : List V} {ds : List D} : H a = some ho → Holds t xs ho → IsDs K G xs ds → RdV G H (.ref a) (mkD t ds)
def RR (G H : Hp) (σ : L2.St) (v : V) (d : D) (f : List Addr) : Prop := f = [] ∧ RdV K G H v d
def RB (G H : Hp) (σ : L2.St) (v : V) (b : Bool) (f : List Addr) : Prop := f = [] ∧ v = .bl b
def RA (G H : Hp) (σ : L2.St) (vs : List V) (ds : List D) (f : List Addr) : Prop := f = [] ∧ IsDs K G vs ds
def RI (G H : Hp) (σ : L2.St) (v : Option Int) (d : Option Int) (f : List Addr) : Prop := f = [] ∧ v = d
def RP (G H : Hp) (σ : L2.St) (v : V) (o : O) (f : List Addr) : Prop := Rep K G H v o f
def ExF (G H : Hp) (d : Option Addr) (fs : List (Str × D)) : Prop := (fs = [] ∧ d = none) ∨
  fs ≠ [] ∧ ∃ dx xfs, d = some dx ∧ H dx = some (.xd xfs) ∧ G dx = some (.xd xfs) ∧ xfs.map (·.1) = fs.map (·.1) ∧ IsDs K G (xfs.map (·.2)) (fs.map (·.2))
end
abbrev RT (υ α : Type) := Hp → Hp → L2.St → υ → α → List Addr → Prop
structure Got {υ α : Type} (G H : Hp) (σ : L2.St) (R : RT υ α) (a : α) (v : υ) (G' H' : Hp) (f : List Addr) : Prop where
  gr : Gr G H G'
  eh : Ex H H'
  x : Ex G' H'
  rep : R G' H' σ v a f
  nd : f.Nodup
  fr : ∀ b ∈ f, G' b = none ∧ H b = none
def Post {υ α : Type} (K : PySem.W.Frag) (mg : Str → Option Value) (W : WX) (R : RT υ α) (r : Rs α) (σ : L2.St) (G H : Hp) (Q : υ → Hp → Prop) : Prop := match r with
  | .ok a => ∀ v G' H' f, Got G H σ R a v G' H' f → Q v H'
  | .exc c fs => ∀ cls d G' H', mg c = some cls → Gr G H G' → Ex H H' → Ex G' H' → ExF K G' H' d fs → W cls d σ H'
  | .bad => False
def tG {υ α : Type} (K : PySem.W.Frag) (mg : Str → Option Value) (W : WX) (R : RT υ α) (f : Env → Rs α) : L2.St → Hp → (υ → Hp → Prop) → Prop := fun σ H Q =>
  ∃ ρ G fp, Conf K G H σ ρ fp ∧ Post K mg W R (f ρ) σ G H Q
abbrev FE := Env → Rs Opd
abbrev FD := Env → Rs D
abbrev FB := Env → Rs Bool
section
variable {K : PySem.W.Frag} {mg : Str → Option Value} {W : WX} {G G' G1 H H' H1 : Hp} {σ : L2.St} {υ υ' α β : Type}
theorem Got.conf {R : RT υ α} {a : α} {v : υ} {f fp : List Addr} {ρ : Env} (g : Got G H σ R a v G' H' f) (c : Conf K G H σ ρ fp) : Conf K G' H' σ ρ fp := c.grow g.gr g.eh g.x
theorem Got.step {R : RT υ α} {a : α} {v : υ} {f : List Addr} (gr : Gr G H G1) (eh : Ex H H1) (g : Got G1 H1 σ R a v G' H' f) : Got G H σ R a v G' H' f :=
  ⟨gr.trans eh g.gr, eh.trans g.eh, g.x, g.rep, g.nd, fun b hb => ⟨(g.fr b hb).1, L2.Same.free eh (g.fr b hb).2⟩⟩
theorem Post.step {R : RT υ α} {r : Rs α} {Q : υ → Hp → Prop} (gr : Gr G H G1) (eh : Ex H H1) (h : Post K mg W R r σ G H Q) : Post K mg W R r σ G1 H1 Q := by
  cases r with
  | ok a => exact fun v G' H' f g => h v G' H' f (g.step gr eh)
  | exc c fs => exact fun cls d G' H' m g e x q => h cls d G' H' m (gr.trans eh g) (eh.trans e) x q
  | bad => exact h
theorem seqE {R : RT υ α} {R' : RT υ' β} {fa : Env → Rs α} {k : α → Rs β} {ρ : Env} {fp : List Addr} {Q : υ' → Hp → Prop} {Q1 : υ → Hp → Prop} (c : Conf K G H σ ρ fp) (h : Post K mg W R' ((fa ρ).bnd k) σ G H Q)
    (next : ∀ a v G1 H1 f, fa ρ = .ok a → Got G H σ R a v G1 H1 f → Post K mg W R' (k a) σ G1 H1 Q → Q1 v H1) : tG K mg W R fa σ H Q1 := by
  refine ⟨ρ, G, fp, c, ?_⟩
  cases e : fa ρ with
  | ok a =>
    rw [e] at h
    exact fun v G' H' f g => next a v G' H' f e g (Post.step g.gr g.eh h)
  | exc c fs =>
    rw [e] at h
    exact h
  | bad =>
    rw [e] at h
    exact h
theorem PAimp {X : Cx} {es : List Expr} {t t' : TA} (h : PA X es t) (i : ∀ σ H Q, t' σ H Q → t σ H Q) : PA X es t' := ⟨fun pos pins s σ H Q I q => h.run pos pins s σ H Q I (i σ H Q q)⟩
theorem POimp {X : Cx} {e : Option Expr} {t t' : TO} (h : PO X e t) (i : ∀ σ H Q, t' σ H Q → t σ H Q) : PO X e t' := ⟨fun pins s σ H Q I q => h.run pins s σ H Q I (i σ H Q q)⟩
theorem PEimp {X : Cx} {e : Expr} {t t' : TE} (h : PE X e t) (i : ∀ σ H Q, t' σ H Q → t σ H Q) : PE X e t' := ⟨fun pins s σ H Q I q => h.run pins s σ H Q I (i σ H Q q)⟩
theorem PTimp {X : Cx} {e : Expr} {t t' : TT} (h : PT X e t) (i : ∀ σ H Q, t' σ H Q → t σ H Q) : PT X e t' := ⟨fun pins s σ H Q I q => h.run pins s σ H Q I (i σ H Q q)⟩
theorem PWimp {X : Cx} {e : Expr} {t t' : TT} (h : PW X e t) (i : ∀ σ H Q, t' σ H Q → t σ H Q) : PW X e t' := ⟨fun wh pins s σ H Q I q => h.run wh pins s σ H Q I (i σ H Q q)⟩

def dats : List O → Option (List D)
  | [] => some []
  | .dat d :: os => (dats os).map (d :: ·)
  | .node _ _ :: _ => none
  | .pck _ :: _ => none
def rd (ρ : Env) : Opd → Option D
  | .tmp o => freeze o
  | .plc i p => match ρ[i]? with
    | some (some o) => match o.at p with
      | some (.node t l) => (dats l).map (mkD t)
      | some (.pck l) => (dats l).map .tup
      | _ => none
    | _ => none
def toRs {α : Type} : Option α → Rs α
  | some a => .ok a
  | none => .bad
@[simp] theorem toRs_some {α : Type} (a : α) : toRs (some a) = .ok a := rfl
@[simp] theorem toRs_none {α : Type} : toRs (none : Option α) = .bad := rfl
def rdE (f : FE) : FD := fun ρ => (f ρ).bnd fun o => toRs (rd ρ o)
def dOf : Opd → Option D
  | .tmp o => freeze o
  | .plc _ _ => none
def dE (f : FE) : FD := fun ρ => (f ρ).bnd fun o => toRs (dOf o)
def bOf : D → Option Bool
  | .bl b => some b
  | _ => none
def bE (f : FE) : FB := fun ρ => (dE f ρ).bnd fun d => toRs (bOf d)

theorem dats_is : ∀ {vs : List V} {os : List O} {f : List Addr} {ds : List D}, Reps K G H vs os f → dats os = some ds → IsDs K G vs ds
  | _, _, _, _, .nil, e => by simp [dats] at e; subst e; exact .nil
  | _, _, _, _, .cons (o := .dat d) (os := os) (.dat h) t, e => by
    cases z : dats os with
    | none => simp [dats, z] at e
    | some ds => simp [dats, z] at e; subst e; exact .cons h (dats_is t z)
  | _, _, _, _, .cons (o := .node _ _) (.node _ _ _) t, e => by simp [dats] at e
  | _, _, _, _, .cons (o := .pck _) (.pck _ _) t, e => by simp [dats] at e
theorem Reps.get : ∀ {vs : List V} {os : List O} {f : List Addr} {k : Nat} {o : O}, Reps K G H vs os f → os[k]? = some o → ∃ v f1, vs[k]? = some v ∧ Rep K G H v o f1 ∧ ∀ a ∈ f1, a ∈ f
  | _, _, _, _, _, .nil, e => by simp at e
  | _, _, _, 0, _, .cons h t, e => by
    simp at e; subst e
    exact ⟨_, _, rfl, h, fun a ha => List.mem_append_left _ ha⟩
  | _, _, _, k + 1, o, .cons h t, e => by
    obtain ⟨v, f1, h1, h2, h3⟩ := Reps.get (k := k) (o := o) t (by simpa using e)
    exact ⟨v, f1, by simpa using h1, h2, fun a ha => List.mem_append_right _ (h3 a ha)⟩
theorem Rep.at (x : Ex G H) : ∀ {p : List Nat} {v w : V} {o o' : O} {f : List Addr}, Rep K G H v o f → At H v p w → o.at p = some o' → ∃ f1, Rep K G H w o' f1 ∧ ∀ a ∈ f1, a ∈ f
  | [], v, w, o, o', f, r, h, e => by
    have e' : v = w := h
    subst e'
    have e2 : some o = some o' := by cases o <;> exact e
    cases e2
    exact ⟨f, r, fun _ h => h⟩
  | k :: p, v, w, o, o', f, r, h, e => by
    cases r with
    | dat _ => simp [O.at] at e
    | node h1 h2 h3 =>
      obtain ⟨a, ho, v', e1, e2, e3, e4⟩ := h
      cases e1
      rw [h1] at e2; cases e2
      rw [h2.kids] at e3
      rename_i l f' 
      cases z : l[k]? with
      | none => simp [O.at, z] at e
      | some o1 =>
        simp only [O.at, z] at e
        obtain ⟨v1, f1, g1, g2, g3⟩ := h3.get z
        rw [e3] at g1; cases g1
        obtain ⟨f2, q1, q2⟩ := Rep.at x g2 e4 e
        exact ⟨f2, q1, fun a ha => List.mem_cons_of_mem _ (g3 a (q2 a ha))⟩
    | @pck a0 xs l _ h1 h3 =>
      obtain ⟨a, ho, v', e1, e2, e3, e4⟩ := h
      cases e1
      rw [x _ _ h1] at e2; cases e2
      cases z : l[k]? with
      | none => simp [O.at, z] at e
      | some o1 =>
        simp only [O.at, z] at e
        obtain ⟨v1, f1, g1, g2, g3⟩ := h3.get z
        have e3 : xs[k]? = some v' := e3
        rw [e3] at g1; cases g1
        obtain ⟨f2, q1, q2⟩ := Rep.at x g2 e4 e
        exact ⟨f2, q1, fun a ha => g3 a (q2 a ha)⟩
theorem Got.read {o : Opd} {v : V} {f fp : List Addr} {ρ : Env} {d : D} (c : Conf K G H σ ρ fp) (g : Got G H σ (RO K) o v G' H' f) (e : rd ρ o = some d) :
    ∃ G2, Got G H σ (RR K) d v G2 H' [] := by
  cases o with
  | tmp o =>
    have r : Rep K G' H' v o f := g.rep
    have q := r.freeze e f (fun _ h => h) fun a ha => (g.fr a ha).1
    refine ⟨fz G' H' f, ⟨g.gr.ex.trans (fz_ex fun a ha => (g.fr a ha).1), fun a u h t n => ?_⟩, g.eh, fz_in g.x, ⟨rfl, .dat q⟩, List.nodup_nil, fun _ z => by cases z⟩
    have na : a ∉ f := fun z => by
      have := (g.fr a z).2
      rw [h] at this; cases this
    rw [fz_not na]
    exact g.gr.old a u h t n
  | plc i p =>
    obtain ⟨ef, v0, h0, ha⟩ := g.rep
    have c' := g.conf c
    simp only [rd] at e
    cases z : ρ[i]? with
    | none => simp [z] at e
    | some oo =>
      cases oo with
      | none => simp [z] at e
      | some o =>
        simp only [z] at e
        cases z2 : o.at p with
        | none => simp [z2] at e
        | some o2 =>
          cases o2 with
          | dat _ => simp [z2] at e
          | node t l =>
            simp only [z2] at e
            cases z3 : dats l with
            | none => simp [z3] at e
            | some ds =>
              simp only [z3, Option.map_some, Option.some.injEq] at e
              subst e
              obtain ⟨v1, f1, pre, post, g1, g2, g3⟩ := c'.rep.at z
              rw [h0] at g1; cases g1
              obtain ⟨f2, q1, q2⟩ := g2.at g.x ha z2
              cases q1 with
              | node k1 k2 k3 => exact ⟨G', g.gr, g.eh, g.x, ⟨rfl, .top k1 k2 (dats_is k3 z3)⟩, List.nodup_nil, fun _ z => by cases z⟩
          | pck l =>
            simp only [z2] at e
            cases z3 : dats l with
            | none => simp [z3] at e
            | some ds =>
              simp only [z3, Option.map_some, Option.some.injEq] at e
              subst e
              obtain ⟨v1, f1, pre, post, g1, g2, g3⟩ := c'.rep.at z
              rw [h0] at g1; cases g1
              obtain ⟨f2, q1, q2⟩ := g2.at g.x ha z2
              cases q1 with
              | pck k1 k3 => exact ⟨G', g.gr, g.eh, g.x, ⟨rfl, .dat (.tup k1 (dats_is k3 z3))⟩, List.nodup_nil, fun _ z => by cases z⟩
theorem Got.data {o : Opd} {v : V} {f : List Addr} {d : D} (g : Got G H σ (RO K) o v G' H' f) (e : dOf o = some d) :
    ∃ G2, Got G H σ (RD K) d v G2 H' [] := by
  cases o with
  | tmp o =>
    have r : Rep K G' H' v o f := g.rep
    have q := r.freeze e f (fun _ h => h) fun a ha => (g.fr a ha).1
    refine ⟨fz G' H' f, ⟨g.gr.ex.trans (fz_ex fun a ha => (g.fr a ha).1), fun a u h t n => ?_⟩, g.eh, fz_in g.x, ⟨rfl, q⟩, List.nodup_nil, fun _ z => by cases z⟩
    have na : a ∉ f := fun z => by
      have := (g.fr a z).2
      rw [h] at this; cases this
    rw [fz_not na]
    exact g.gr.old a u h t n
  | plc i p => cases e
variable {X : Cx} {e : Expr}
theorem to_rd {fe : FE} (h : PE X e (tG X.K X.mg W (RO X.K) fe)) : PE X e (tG X.K X.mg W (RR X.K) (rdE fe)) := PEimp h fun σ H Q ⟨ρ, G, fp, c, q⟩ =>
  seqE (R := RO X.K) c q fun o v G1 H1 f _ g q1 => by
    cases z : rd ρ o with
    | none => rw [z] at q1; exact q1.elim
    | some d =>
      obtain ⟨G2, g2⟩ := g.read c z
      have q00 := q
      unfold rdE at q00
      rw [show fe ρ = .ok o by assumption] at q00
      simp only [Rs.bnd_ok, z, toRs_some] at q00
      exact q00 v G2 H1 [] g2
theorem to_d {fe : FE} (h : PE X e (tG X.K X.mg W (RO X.K) fe)) : PE X e (tG X.K X.mg W (RD X.K) (dE fe)) := PEimp h fun σ H Q ⟨ρ, G, fp, c, q⟩ =>
  seqE (R := RO X.K) c q fun o v G1 H1 f _ g q1 => by
    cases z : dOf o with
    | none => rw [z] at q1; exact q1.elim
    | some d =>
      obtain ⟨G2, g2⟩ := g.data z
      have q00 := q
      unfold dE at q00
      rw [show fe ρ = .ok o by assumption] at q00
      simp only [Rs.bnd_ok, z, toRs_some] at q00
      exact q00 v G2 H1 [] g2
theorem IsD.bl_inv {v : V} {b : Bool} (h : IsD K G v (.bl b)) : v = .bl b := by cases h; rfl
theorem to_b {fe : FE} (h : PE X e (tG X.K X.mg W (RO X.K) fe)) : PE X e (tG X.K X.mg W RB (bE fe)) := PEimp (to_d h) fun σ H Q ⟨ρ, G, fp, c, q⟩ =>
  seqE (R := RD X.K) c q fun d v G1 H1 f _ g q1 => by
    cases d with
    | bl b => exact q1 v G1 H1 [] ⟨Gr.refl, Ex.refl _, g.x, ⟨rfl, g.rep.2.bl_inv⟩, List.nodup_nil, fun _ z => by cases z⟩
    | _ => exact q1.elim
end
end FL
namespace FL
open PySem L2

mutual
def pyD : D → PyData
  | .non => .none
  | .bl b => .bool b
  | .int i => .int i
  | .str s => .str s
  | .tup l => .tuple (pyDs l)
  | .lst l => .list (pyDs l)
  | .scr l => .list (pyDs l)
  | .obj _ _ => .none
  | .exn _ _ _ _ => .none
def pyDs : List D → List PyData
  | [] => []
  | d :: ds => pyD d :: pyDs ds
end
mutual
def okE : Nat → D → Bool
  | _, .non => true
  | _, .bl _ => true
  | _, .int _ => true
  | _, .str s => PyData.strOk s
  | n, .tup l => match n with | 0 => false | n + 1 => okEs n l
  | n, .lst l => match n with | 0 => false | n + 1 => okEs n l
  | n, .scr l => match n with | 0 => false | n + 1 => okEs n l
  | _, .obj _ _ => false
  | _, .exn _ _ _ _ => false
def okEs : Nat → List D → Bool
  | _, [] => true
  | n, d :: ds => okE n d && okEs n ds
end
mutual
def eqD : D → D → Bool
  | .non, .non => true
  | .bl a, .bl b => a == b
  | .bl a, .int j => (if a then 1 else 0) == j
  | .int i, .bl b => i == (if b then 1 else 0)
  | .int i, .int j => i == j
  | .str x, .str y => x == y
  | .tup xs, .tup ys => eqDs xs ys
  | .lst xs, .lst ys => eqDs xs ys
  | .lst xs, .scr ys => eqDs xs ys
  | .scr xs, .lst ys => eqDs xs ys
  | .scr xs, .scr ys => eqDs xs ys
  | _, _ => false
def eqDs : List D → List D → Bool
  | [], [] => true
  | x :: xs, y :: ys => eqD x y && eqDs xs ys
  | _, _ => false
end
mutual
theorem okE_py : ∀ (n : Nat) (d : D), okE n d = true → (pyD d).canLay0 = true ∧ (pyD d).depth ≤ n
  | n, .non, _ => ⟨rfl, Nat.zero_le _⟩
  | n, .bl _, _ => ⟨rfl, Nat.zero_le _⟩
  | n, .int _, _ => ⟨rfl, Nat.zero_le _⟩
  | n, .str s, h => ⟨by unfold okE at h; exact h, Nat.zero_le _⟩
  | 0, .tup l, h => by simp [okE] at h
  | n + 1, .tup l, h => by
    have q := okEs_py n l (by simpa [okE] using h)
    exact ⟨by simpa [pyD, PyData.canLay0] using q.1, by simp only [pyD, PyData.depth]; omega⟩
  | 0, .lst l, h => by simp [okE] at h
  | n + 1, .lst l, h => by
    have q := okEs_py n l (by simpa [okE] using h)
    exact ⟨by simpa [pyD, PyData.canLay0] using q.1, by simp only [pyD, PyData.depth]; omega⟩
  | 0, .scr l, h => by simp [okE] at h
  | n + 1, .scr l, h => by
    have q := okEs_py n l (by simpa [okE] using h)
    exact ⟨by simpa [pyD, PyData.canLay0] using q.1, by simp only [pyD, PyData.depth]; omega⟩
  | n, .obj _ _, h => by simp [okE] at h
  | n, .exn _ _ _ _, h => by simp [okE] at h
theorem okEs_py : ∀ (n : Nat) (l : List D), okEs n l = true → PyData.canLayAll0 (pyDs l) = true ∧ PyData.depthAll (pyDs l) ≤ n
  | n, [], _ => ⟨rfl, Nat.zero_le _⟩
  | n, d :: ds, h => by
    unfold okEs at h
    obtain ⟨h1, h2⟩ := Bool.and_eq_true_iff.mp h
    have q1 := okE_py n d h1
    have q2 := okEs_py n ds h2
    exact ⟨by simp only [pyDs, PyData.canLayAll0, Bool.and_eq_true]; exact ⟨q1.1, q2.1⟩, by simp only [pyDs, PyData.depthAll]; omega⟩
end
theorem okE_shaped {n : Nat} {d : D} (hn : n ≤ 64) (h : okE n d = true) : SeqAt.shaped (pyD d) = true := by
  have q := okE_py n d h
  unfold SeqAt.shaped
  simp only [Bool.and_eq_true, decide_eq_true_eq]
  exact ⟨q.1, Nat.le_trans q.2 hn⟩
mutual
theorem eqD_py : ∀ (n : Nat) (a b : D), okE n a = true → okE n b = true → PyData.eqv (pyD a) (pyD b) = eqD a b
  | n, .non, b, _, hb => by cases b <;> first | rfl | simp [okE] at hb | simp [pyD, PyData.eqv, eqD]
  | n, .bl _, b, _, hb => by cases b <;> first | rfl | simp [okE] at hb | simp [pyD, PyData.eqv, eqD]
  | n, .int _, b, _, hb => by cases b <;> first | rfl | simp [okE] at hb | simp [pyD, PyData.eqv, eqD]
  | n, .str _, b, _, hb => by cases b <;> first | rfl | simp [pyD, PyData.eqv, eqD] | simp [okE] at hb
  | 0, .tup l, b, ha, hb => by simp [okE] at ha
  | n + 1, .tup l, b, ha, hb => by
    cases b with
    | tup l2 => simp only [pyD, PyData.eqv, eqD]; exact eqDs_py n l l2 (by simpa [okE] using ha) (by simpa [okE] using hb)
    | obj _ _ => simp [okE] at hb
    | _ => simp [pyD, PyData.eqv, eqD]
  | 0, .lst l, b, ha, hb => by simp [okE] at ha
  | n + 1, .lst l, b, ha, hb => by
    cases b with
    | lst l2 => simp only [pyD, PyData.eqv, eqD]; exact eqDs_py n l l2 (by simpa [okE] using ha) (by simpa [okE] using hb)
    | scr l2 => simp only [pyD, PyData.eqv, eqD]; exact eqDs_py n l l2 (by simpa [okE] using ha) (by simpa [okE] using hb)
    | obj _ _ => simp [okE] at hb
    | _ => simp [pyD, PyData.eqv, eqD]
  | 0, .scr l, b, ha, hb => by simp [okE] at ha
  | n + 1, .scr l, b, ha, hb => by
    cases b with
    | lst l2 => simp only [pyD, PyData.eqv, eqD]; exact eqDs_py n l l2 (by simpa [okE] using ha) (by simpa [okE] using hb)
    | scr l2 => simp only [pyD, PyData.eqv, eqD]; exact eqDs_py n l l2 (by simpa [okE] using ha) (by simpa [okE] using hb)
    | obj _ _ => simp [okE] at hb
    | _ => simp [pyD, PyData.eqv, eqD]
  | n, .obj _ _, b, ha, hb => by simp [okE] at ha
  | n, .exn _ _ _ _, b, ha, hb => by simp [okE] at ha
theorem eqDs_py : ∀ (n : Nat) (a b : List D), okEs n a = true → okEs n b = true → PyData.eqvAll (pyDs a) (pyDs b) = eqDs a b
  | n, [], [], _, _ => by simp [pyDs, PyData.eqvAll, eqDs]
  | n, [], _ :: _, _, _ => by simp [pyDs, PyData.eqvAll, eqDs]
  | n, _ :: _, [], _, _ => by simp [pyDs, PyData.eqvAll, eqDs]
  | n, x :: xs, y :: ys, ha, hb => by
    unfold okEs at ha hb
    obtain ⟨h1, h2⟩ := Bool.and_eq_true_iff.mp ha
    obtain ⟨g1, g2⟩ := Bool.and_eq_true_iff.mp hb
    simp only [pyDs, PyData.eqvAll, eqDs]
    rw [eqD_py n x y h1 g1, eqDs_py n xs ys h2 g2]
end
section
variable {K : PySem.W.Frag} {G H : Hp}
mutual
theorem IsD.dp (e : Ex G H) : ∀ {n : Nat} {v : V} {d : D}, IsD K G v d → okE n d = true → Dp K H v (pyD d)
  | _, _, _, .non, _ => by simpa [pyD] using Dp.non
  | _, _, _, .bl b, _ => by simpa [pyD] using Dp.bl b
  | _, _, _, .int i, _ => by simpa [pyD] using Dp.int i
  | _, _, _, .str s, _ => by simpa [pyD] using Dp.str s
  | 0, _, _, .tup h hs, q => by simp [okE] at q
  | n + 1, _, _, .tup h hs, q => by simpa [pyD] using Dp.tup (SqT.of (e _ _ h)) (IsDs.dp e hs (n := n) (by simpa [okE] using q))
  | 0, _, _, .lst h hs, q => by simp [okE] at q
  | n + 1, _, _, .lst h hs, q => by simpa [pyD] using Dp.lst (SqL.of (e _ _ h)) (IsDs.dp e hs (n := n) (by simpa [okE] using q))
  | 0, _, _, .scr h hs, q => by simp [okE] at q
  | n + 1, _, _, .scr h hs, q => by simpa [pyD] using Dp.lst (sql_mono e h) (IsDs.dp e hs (n := n) (by simpa [okE] using q))
  | _, _, _, .obj _ _ _, q => by simp [okE] at q
  | _, _, _, .exn _ _ _, q => by simp [okE] at q
theorem IsDs.dp (e : Ex G H) : ∀ {n : Nat} {vs : List V} {ds : List D}, IsDs K G vs ds → okEs n ds = true → DpAll K H vs (pyDs ds)
  | _, _, _, .nil, _ => by simpa [pyDs] using DpAll.nil
  | n, _, _, .cons h t, q => by
    unfold okEs at q
    obtain ⟨h1, h2⟩ := Bool.and_eq_true_iff.mp q
    simpa [pyDs] using DpAll.cons (IsD.dp e h h1) (IsDs.dp e t h2)
end
theorem RdV.dp {n : Nat} {v : V} {d : D} (e : Ex G H) (h : RdV K G H v d) (q : okE n d = true) : Dp K H v (pyD d) := by
  cases h with
  | dat h => exact h.dp e q
  | top h1 h2 h3 =>
    rename_i t xs ds
    cases t with
    | lst =>
      cases h2
      cases n with
      | zero => simp [mkD, okE] at q
      | succ n => simpa [mkD, pyD] using Dp.lst (SqL.of h1) (h3.dp e (n := n) (by simpa [mkD, okE] using q))
    | _ => simp [mkD, okE] at q
theorem RdV.int {v : V} {i : Int} (h : RdV K G H v (.int i)) : v = .int i := by
  generalize e : D.int i = d at h
  cases h with
  | dat h => subst e; cases h; rfl
  | top h1 h2 h3 => rename_i t xs ds; cases t <;> cases e
theorem RdV.bl {v : V} {i : Bool} (h : RdV K G H v (.bl i)) : v = .bl i := by
  generalize e : D.bl i = d at h
  cases h with
  | dat h => subst e; cases h; rfl
  | top h1 h2 h3 => rename_i t xs ds; cases t <;> cases e
theorem RdV.str {v : V} {i : Str} (h : RdV K G H v (.str i)) : v = .str i := by
  generalize e : D.str i = d at h
  cases h with
  | dat h => subst e; cases h; rfl
  | top h1 h2 h3 => rename_i t xs ds; cases t <;> cases e
theorem RdV.non {v : V} (h : RdV K G H v .non) : v = .non := by
  generalize e : D.non = d at h
  cases h with
  | dat h => subst e; cases h; rfl
  | top h1 h2 h3 => rename_i t xs ds; cases t <;> cases e
theorem RdV.tup {v : V} {l : List D} (x : Ex G H) (h : RdV K G H v (.tup l)) : ∃ a xs, v = .ref a ∧ SqT K H a xs ∧ G a = some (.tup xs) ∧ IsDs K G xs l := by
  generalize e : D.tup l = d at h
  cases h with
  | dat h => subst e; cases h with | tup a b => exact ⟨_, _, rfl, SqT.of (x _ _ a), a, b⟩
  | top h1 h2 h3 => rename_i t xs ds; cases t <;> cases e
theorem RdV.lst {v : V} {l : List D} (x : Ex G H) (h : RdV K G H v (.lst l)) : ∃ a xs, v = .ref a ∧ H a = some (.lst xs) ∧ IsDs K G xs l := by
  generalize e : D.lst l = d at h
  cases h with
  | dat h => subst e; cases h with | lst a b => exact ⟨_, _, rfl, x _ _ a, b⟩
  | top h1 h2 h3 =>
    rename_i t xs ds
    cases t with
    | lst => cases e; cases h2; exact ⟨_, _, rfl, h1, h3⟩
    | _ => cases e
theorem RdV.scr {v : V} {l : List D} (x : Ex G H) (h : RdV K G H v (.scr l)) : ∃ a xs, v = .ref a ∧ SqL K H a xs ∧ IsDs K G xs l := by
  generalize e : D.scr l = d at h
  cases h with
  | dat h => subst e; cases h with | scr a b => exact ⟨_, _, rfl, sql_mono x a, b⟩
  | top h1 h2 h3 => rename_i t xs ds; cases t <;> cases e
theorem RdV.seql {v : V} {d : D} {l : List D} (x : Ex G H) (h : RdV K G H v d) (e : d = .lst l ∨ d = .scr l) : ∃ a xs, v = .ref a ∧ SqL K H a xs ∧ IsDs K G xs l := by
  rcases e with rfl | rfl
  · obtain ⟨a, xs, h1, h2, h3⟩ := h.lst x
    exact ⟨a, xs, h1, SqL.of h2, h3⟩
  · exact h.scr x
theorem RdV.mono {G' H' : Hp} {v : V} {d : D} (e : Ex G G') (eh : Ex H H') (h : RdV K G H v d) : RdV K G' H' v d := by
  cases h with
  | dat h => exact .dat (h.mono e)
  | top h1 h2 h3 => exact .top (eh _ _ h1) h2 (h3.mono e)
end
def isNon : D → Bool
  | .non => true
  | _ => false
theorem RdV.isNon {K : PySem.W.Frag} {G H : Hp} {v : V} {d : D} (h : RdV K G H v d) : decide (v = .non) = isNon d := by
  cases h with
  | dat h => cases h <;> first | rfl | exact decide_eq_false (by intro z; cases z)
  | top h1 h2 h3 => rename_i t xs ds; cases t <;> exact decide_eq_false (by intro z; cases z)

def intsOf : List D → Option (List Int)
  | [] => some []
  | .int i :: ds => (intsOf ds).map (i :: ·)
  | _ :: _ => none
@[simp] theorem intsOf_map : ∀ l : List Int, intsOf (l.map D.int) = some l
  | [] => rfl
  | i :: l => by simp [intsOf, intsOf_map l]
theorem intsOf_is {K : PySem.W.Frag} {G : Hp} : ∀ {vs : List V} {ds : List D} {ns : List Int}, IsDs K G vs ds → intsOf ds = some ns → vs = ns.map V.int
  | _, _, _, .nil, e => by simp [intsOf] at e; subst e; rfl
  | _, _, _, .cons (d := .int i) (ds := ds) (.int _) t, e => by
    cases z : intsOf ds with
    | none => simp [intsOf, z] at e
    | some ms => simp [intsOf, z] at e; subst e; rw [intsOf_is t z]; rfl
  | _, _, _, .cons (d := .non) h t, e => by simp [intsOf] at e
  | _, _, _, .cons (d := .bl _) h t, e => by simp [intsOf] at e
  | _, _, _, .cons (d := .str _) h t, e => by simp [intsOf] at e
  | _, _, _, .cons (d := .tup _) h t, e => by simp [intsOf] at e
  | _, _, _, .cons (d := .lst _) h t, e => by simp [intsOf] at e
  | _, _, _, .cons (d := .scr _) h t, e => by simp [intsOf] at e
  | _, _, _, .cons (d := .obj _ _) h t, e => by simp [intsOf] at e
  | _, _, _, .cons (d := .exn _ _ _ _) h t, e => by simp [intsOf] at e
def blsOf : List D → Option (List Bool)
  | [] => some []
  | .bl i :: ds => (blsOf ds).map (i :: ·)
  | _ :: _ => none
@[simp] theorem blsOf_map : ∀ l : List Bool, blsOf (l.map D.bl) = some l
  | [] => rfl
  | i :: l => by simp [blsOf, blsOf_map l]
theorem blsOf_is {K : PySem.W.Frag} {G : Hp} : ∀ {vs : List V} {ds : List D} {ns : List Bool}, IsDs K G vs ds → blsOf ds = some ns → vs = ns.map V.bl
  | _, _, _, .nil, e => by simp [blsOf] at e; subst e; rfl
  | _, _, _, .cons (d := .bl i) (ds := ds) (.bl _) t, e => by
    cases z : blsOf ds with
    | none => simp [blsOf, z] at e
    | some ms => simp [blsOf, z] at e; subst e; rw [blsOf_is t z]; rfl
  | _, _, _, .cons (d := .non) h t, e => by simp [blsOf] at e
  | _, _, _, .cons (d := .int _) h t, e => by simp [blsOf] at e
  | _, _, _, .cons (d := .str _) h t, e => by simp [blsOf] at e
  | _, _, _, .cons (d := .tup _) h t, e => by simp [blsOf] at e
  | _, _, _, .cons (d := .lst _) h t, e => by simp [blsOf] at e
  | _, _, _, .cons (d := .scr _) h t, e => by simp [blsOf] at e
  | _, _, _, .cons (d := .obj _ _) h t, e => by simp [blsOf] at e
  | _, _, _, .cons (d := .exn _ _ _ _) h t, e => by simp [blsOf] at e

abbrev okT : O → Rs Opd := fun o => .ok (.tmp o)
section
variable {K : PySem.W.Frag} {mg : Str → Option Value} {W : WX} {G H : Hp} {σ : L2.St} {Q : VK}
theorem Post.dt {v : V} {d : D} (h : Post K mg W (RO K) (.ok (.tmp (.dat d))) σ G H Q) (x : Ex G H) (r : IsD K G v d) : Q v H :=
  h v G H [] ⟨Gr.refl, Ex.refl _, x, .dat r, List.nodup_nil, fun _ z => by cases z⟩
theorem reps_dats : ∀ {xs : List V} {ds : List D}, IsDs K G xs ds → Reps K G H xs (ds.map .dat) []
  | _, _, .nil => .nil
  | _, _, .cons h t => by simpa using Reps.cons (.dat h) (reps_dats t)
theorem Post.nl {p : Addr} {xs : List V} {ds : List D} (h : Post K mg W (RO K) (.ok (.tmp (.node .lst (ds.map .dat)))) σ G H Q) (x : Ex G H) (r : IsDs K G xs ds) (n : H p = none) : Q (.ref p) (upd H p (.lst xs)) := by
  have gp : G p = none := L2.Same.free x n
  refine h (.ref p) G (upd H p (.lst xs)) [p] ⟨Gr.refl, Ex.new n, x.trans (Ex.new n), .node (t := .lst) upd_same rfl (reps_dats r), by simp, fun b z => ?_⟩
  obtain rfl : b = p := by simpa using z
  exact ⟨gp, n⟩
theorem Post.nt {p : Addr} {xs : List V} {ds : List D} (h : Post K mg W (RO K) (.ok (.tmp (.dat (.tup ds)))) σ G H Q) (x : Ex G H) (r : IsDs K G xs ds) (n : H p = none) : Q (.ref p) (upd H p (.tup xs)) := by
  refine h (.ref p) (upd G p (.tup xs)) (upd H p (.tup xs)) [] ⟨Gr.new n x, Ex.new n, x.upd2 n, .dat (.tup upd_same (r.mono (Ex.new (L2.Same.free x n)))), List.nodup_nil, fun _ z => by cases z⟩
end
def OpF (K : PySem.W.Frag) (r : R2) (g : D → D → Rs O) : Prop := ∀ {mg : Str → Option Value} {W : WX} {G H : Hp} {σ : L2.St} {Q : VK} {x y : V} {dx dy : D},
  Ex G H → RdV K G H x dx → RdV K G H y dy → Post K mg W (RO K) ((g dx dy).bnd okT) σ G H Q → r x y H Q
def UnF (K : PySem.W.Frag) (r : V → Hp → VK → Prop) (g : D → Rs O) : Prop := ∀ {mg : Str → Option Value} {W : WX} {G H : Hp} {σ : L2.St} {Q : VK} {x : V} {dx : D},
  Ex G H → RdV K G H x dx → Post K mg W (RO K) ((g dx).bnd okT) σ G H Q → r x H Q
def eOp (g : D → D → Rs O) (fa fb : FE) : FE := fun ρ => (rdE fa ρ).bnd fun x => (rdE fb ρ).bnd fun y => (g x y).bnd okT
def eUn (g : D → Rs O) (fa : FE) : FE := fun ρ => (rdE fa ρ).bnd fun x => (g x).bnd okT
section
variable {X : Cx} {W : WX} {a b c e : Expr} {fa fb fc : FE} {pos : Pos}
abbrev EE (X : Cx) (W : WX) (e : Expr) (f : FE) : Prop := PE X e (tG X.K X.mg W (RO X.K) f)
abbrev EB (X : Cx) (W : WX) (e : Expr) (f : FB) : Prop := PE X e (tG X.K X.mg W RB f)
abbrev ET (X : Cx) (W : WX) (e : Expr) (f : FB) : Prop := PT X e (tB (tG X.K X.mg W RB f))
theorem imp_op {K : PySem.W.Frag} {mg : Str → Option Value} {g : D → D → Rs O} {r : R2} (hg : OpF K r g) {σ : L2.St} {H : Hp} {Q : VK} (h : tG K mg W (RO K) (eOp g fa fb) σ H Q) :
    tOp r (tG K mg W (RR K) (rdE fa)) (tG K mg W (RR K) (rdE fb)) σ H Q := by
  obtain ⟨ρ, G, fp, c, q⟩ := h
  exact seqE (R := RR K) c q fun x v G1 H1 f _ g1 q1 => seqE (R := RR K) (g1.conf c) q1 fun y w G2 H2 f2 _ g2 q2 =>
    hg g2.x (g1.rep.2.mono g2.gr.ex g2.eh) g2.rep.2 q2
theorem imp_b {K : PySem.W.Frag} {mg : Str → Option Value} {fe : FE} {σ : L2.St} {H : Hp} {Q : VK} (h : tG K mg W RB (bE fe) σ H Q) : tG K mg W (RO K) fe σ H Q := by
  obtain ⟨ρ, G, fp, c, q⟩ := h
  unfold bE dE at q
  refine ⟨ρ, G, fp, c, ?_⟩
  cases z : fe ρ with
  | exc c fs => rw [z] at q; exact q
  | bad => rw [z] at q; exact q
  | ok o =>
    rw [z] at q
    intro v G' H' f g
    simp only [Rs.bnd_ok] at q
    cases z2 : dOf o with
    | none => rw [z2] at q; exact q.elim
    | some d =>
      rw [z2] at q
      obtain ⟨G2, g2⟩ := g.data z2
      cases d with
      | bl b => exact q v G2 H' [] ⟨g2.gr, g2.eh, g2.x, ⟨rfl, g2.rep.2.bl_inv⟩, List.nodup_nil, fun _ z => by cases z⟩
      | _ => exact q.elim
theorem eb_of {fe : FE} (h : EE X W e fe) : EB X W e (bE fe) := PEimp h fun _ _ _ q => imp_b q
theorem et_of {fe : FE} (h : EE X W e fe) (he : ∀ whole, isTrue e X.env whole = (do let v ← whole; standAt e.pos; holding [v] (truthy v)) := by intro _; rfl) : ET X W e (bE fe) := pt_val (eb_of h) he
theorem ee_bin {op : Operator} {r : R2} {g : D → D → Rs O} (ho : OpR X (binaryOp op) r) (hg : OpF X.K r g) (ha : EE X W a fa) (hb : EE X W b fb) : EE X W (.BinOp a op b pos) (eOp g fa fb) :=
  PEimp (pe_op ho (to_rd ha) (to_rd hb)) fun _ _ _ q => imp_op hg q
theorem ee_cmp {op : CmpOp} {r : R2} {g : D → D → Rs O} (ho : OpR X (compareOp op) r) (hg : OpF X.K r g) (ha : EE X W a fa) (hb : EE X W b fb) (hm : behindInMarks op b = false) : EE X W (.Compare a [op] [b] pos) (eOp g fa fb) :=
  PEimp (pe_cmpR ho (to_rd ha) (to_rd hb) hm) fun _ _ _ q => imp_op hg q
theorem et_cmp {op : CmpOp} {r : R2} {g : D → D → Rs O} (ho : OpR X (compareOp op) r) (hg : OpF X.K r g) (ha : EE X W a fa) (hb : EE X W b fb) (hm : behindInMarks op b = false) : ET X W (.Compare a [op] [b] pos) (bE (eOp g fa fb)) :=
  PTimp (pt_cmpR ho (to_rd ha) (to_rd hb) hm) fun _ _ _ q => imp_op hg (imp_b q)
theorem ee_un {op : UnaryOp} {r : V → Hp → VK → Prop} {g : D → Rs O} (ho : UnR X (unaryOp op) r) (hg : UnF X.K r g) (ha : EE X W a fa) : EE X W (.UnaryOp op a pos) (eUn g fa) :=
  PEimp (pe_un ho (to_rd ha)) fun _ _ _ ⟨ρ, G, fp, c, q⟩ => seqE (R := RR X.K) c q fun x v G1 H1 f _ g1 q1 => hg g1.x g1.rep.2 q1

def eVar (i : Nat) : FE := fun ρ => match ρ[i]? with
  | some (some (.dat d)) => .ok (.tmp (.dat d))
  | some (some (.node _ _)) => .ok (.plc i [])
  | some (some (.pck _)) => .ok (.plc i [])
  | _ => .bad
def eK (d : D) : FE := fun _ => .ok (.tmp (.dat d))
theorem ee_var (i : Nat) {x : Str} {pos : Pos} (h : PE X (.Name x pos) (tVar i)) : EE X W (.Name x pos) (eVar i) := PEimp h fun σ H Q ⟨ρ, G, fp, c, q⟩ => by
  unfold eVar at q
  cases z : ρ[i]? with
  | none => rw [z] at q; exact q.elim
  | some oo =>
    cases oo with
    | none => rw [z] at q; exact q.elim
    | some o =>
      obtain ⟨v, f1, pre, post, g1, g2, g3⟩ := c.rep.at z
      refine ⟨v, g1, ?_⟩
      cases o with
      | dat d =>
        rw [z] at q
        cases g2 with
        | dat g2 => exact Post.dt q c.ex g2
      | node t l =>
        rw [z] at q
        exact q v G H [] ⟨Gr.refl, Ex.refl _, c.ex, ⟨rfl, v, g1, rfl⟩, List.nodup_nil, fun _ z => by cases z⟩
      | pck l =>
        rw [z] at q
        exact q v G H [] ⟨Gr.refl, Ex.refl _, c.ex, ⟨rfl, v, g1, rfl⟩, List.nodup_nil, fun _ z => by cases z⟩
theorem ee_k {v : V} {d : D} (h : PE X e (tC v)) (r : ∀ G, IsD X.K G v d) : EE X W e (eK d) := PEimp h fun σ H Q ⟨ρ, G, fp, c, q⟩ => Post.dt q c.ex (r G)
theorem ee_int {i : Int} {j : Nat} {pos : Pos} : EE X W (.Constant (.int i) j pos) (eK (.int i)) := ee_k pe_int fun _ => .int i
theorem ee_bl {b : Bool} {j : Nat} {pos : Pos} : EE X W (.Constant (.bool b) j pos) (eK (.bl b)) := ee_k pe_bl fun _ => .bl b
theorem ee_non {j : Nat} {pos : Pos} : EE X W (.Constant .none j pos) (eK .non) := ee_k pe_non fun _ => .non
theorem ee_str {x : Str} {j : Nat} {pos : Pos} : EE X W (.Constant (.str x) j pos) (eK (.str x)) := ee_k pe_str fun _ => .str x
end

def dAdd : D → D → Rs O
  | .int a, .int b => .ok (.dat (.int (a + b)))
  | .str a, .str b => if a.length + b.length ≤ sizeLine then .ok (.dat (.str (a ++ b))) else .bad
  | .tup a, .tup b => if a.length + b.length ≤ sizeLine then .ok (.dat (.tup (a ++ b))) else .bad
  | .lst a, .lst b => if a.length + b.length ≤ sizeLine then .ok (.node .lst ((a ++ b).map .dat)) else .bad
  | .lst a, .scr b => if a.length + b.length ≤ sizeLine then .ok (.node .lst ((a ++ b).map .dat)) else .bad
  | .scr a, .lst b => if a.length + b.length ≤ sizeLine then .ok (.node .lst ((a ++ b).map .dat)) else .bad
  | _, _ => .bad
def dSub : D → D → Rs O
  | .int a, .int b => .ok (.dat (.int (a - b)))
  | _, _ => .bad
def okRep (n : Nat) (k : Int) : Prop := -(2 ^ 63) ≤ k ∧ k < 2 ^ 63 ∧ n * k.toNat ≤ sizeLine
noncomputable instance (n : Nat) (k : Int) : Decidable (okRep n k) := Classical.propDecidable _
def okMul (a b : Int) : Prop := a.natAbs.log2 + b.natAbs.log2 < 1000000 ∨ L2.CMul a b
noncomputable instance (a b : Int) : Decidable (okMul a b) := Classical.propDecidable _
noncomputable def dMul : D → D → Rs O
  | .int a, .int b => if okMul a b then .ok (.dat (.int (a * b))) else .bad
  | .lst a, .int k => if okRep a.length k then .ok (.node .lst ((List.replicate k.toNat a).flatten.map .dat)) else .bad
  | _, _ => .bad
def dDiv : D → D → Rs O
  | .int a, .int b => if 0 < b ∧ b.natAbs.log2 < 9000 then .ok (.dat (.int (a / b))) else .bad
  | _, _ => .bad
def dMod : D → D → Rs O
  | .int a, .int b => if 0 < b then .ok (.dat (.int (a % b))) else .bad
  | _, _ => .bad
def dPow : D → D → Rs O
  | .int a, .int b => if 0 ≤ b ∧ b ≤ 1000000 ∧ a.natAbs < 2 ^ 64 then .ok (.dat (.int (a ^ b.toNat))) else .bad
  | _, _ => .bad
def dNeg : D → Rs O
  | .int a => .ok (.dat (.int (-a)))
  | _ => .bad
def okCmp (x y : D) : Prop := okE 8 x = true ∧ okE 8 y = true ∧ PySem.W.alike (pyD x) (pyD y) = true ∧ pyD x ≠ .none
open Classical in
noncomputable def cmpG (f : PyData → PyData → Bool) (x y : D) : Rs O := if okCmp x y then .ok (.dat (.bl (f (pyD x) (pyD y)))) else .bad
noncomputable def dLt : D → D → Rs O
  | .int a, .int b => .ok (.dat (.bl (decide (a < b))))
  | .tup a, .tup b => match intsOf a, intsOf b with
    | some ns, some ms => .ok (.dat (.bl (HT.lexLt ns ms)))
    | _, _ => cmpG PySem.W.dataLt (.tup a) (.tup b)
  | _, _ => .bad
noncomputable def dLe : D → D → Rs O
  | .int a, .int b => .ok (.dat (.bl (decide (a ≤ b))))
  | .tup a, .tup b => cmpG (fun x y => !PySem.W.dataLt y x) (.tup a) (.tup b)
  | _, _ => .bad
noncomputable def dGt : D → D → Rs O
  | .int a, .int b => .ok (.dat (.bl (decide (b < a))))
  | .tup a, .tup b => cmpG (fun x y => PySem.W.dataLt y x) (.tup a) (.tup b)
  | _, _ => .bad
noncomputable def dGe : D → D → Rs O
  | .int a, .int b => .ok (.dat (.bl (decide (b ≤ a))))
  | .tup a, .tup b => cmpG (fun x y => !PySem.W.dataLt x y) (.tup a) (.tup b)
  | _, _ => .bad
def dEq (a b : D) : Rs O := if okE 8 a = true ∧ okE 8 b = true then .ok (.dat (.bl (eqD a b))) else .bad
def dNe (a b : D) : Rs O := if okE 8 a = true ∧ okE 8 b = true then .ok (.dat (.bl (!eqD a b))) else .bad
def dIs (x y : D) : Rs O := match y with
  | .non => .ok (.dat (.bl (isNon x)))
  | .bl b => (match x with
    | .bl a => .ok (.dat (.bl (decide (a = b))))
    | _ => .bad)
  | _ => .bad
def dIsN (x y : D) : Rs O := match y with
  | .non => .ok (.dat (.bl (!isNon x)))
  | .bl b => (match x with
    | .bl a => .ok (.dat (.bl (!decide (a = b))))
    | _ => .bad)
  | _ => .bad
theorem IsDs.rep {K : PySem.W.Frag} {G : Hp} {xs : List V} {l : List D} (h : IsDs K G xs l) : ∀ k : Nat, IsDs K G (List.replicate k xs).flatten (List.replicate k l).flatten
  | 0 => .nil
  | k + 1 => by
    rw [List.replicate_succ, List.replicate_succ, List.flatten_cons, List.flatten_cons]
    exact h.append (IsDs.rep h k)
section
variable {X : Cx} {K : PySem.W.Frag}
def rCatQ (K : PySem.W.Frag) : R2 := fun x y H Q => ∃ l b xs zs, x = .ref l ∧ y = .ref b ∧ SqL K H l xs ∧ SqL K H b zs ∧ xs.length + zs.length ≤ sizeLine ∧ ∀ p, H p = none → Q (.ref p) (upd H p (.lst (xs ++ zs)))
theorem op_catQ : OpR X (binaryOp .Add) (rCatQ X.K) := by
  intro pins s σ H x y v u Q I rx ry h
  obtain ⟨l, b, xs, zs, rfl, rfl, hH, hB, hz, q⟩ := h
  cases rx
  cases ry
  obtain ⟨its, r, pl, _⟩ := I.list hH
  obtain ⟨its2, r2, pl2, _⟩ := I.list hB
  have l1 := r.length
  have l2 := r2.length
  obtain ⟨⟨cls, dd, data, sl⟩, ho, hc, n, hd⟩ := pl.isList
  obtain ⟨⟨cls2, dd2, data2, sl2⟩, ho2, hc2, n2, hd2⟩ := pl2.isList
  dsimp only at hc hd hc2 hd2
  subst hc hd hc2 hd2
  have e : its.toArray ++ its2.toArray = (its ++ its2).toArray := by simp
  have m := PyProof.Rows.list_addW l b its.toArray its2.toArray n n2 dd dd2 sl sl2 (by rw [List.size_toArray, List.size_toArray]; omega)
  refine concat_meets ⟨_, ho, rfl⟩ ⟨_, ho2, rfl⟩ noFill_list_add seq_list_add PySem.F.slot_list_add PySem.F.entry_list_add (PySem.F.args_list_add_2 _ _) m ⟨ho, ho2, ?_⟩
  rw [e]
  exact ⟨.ref _, _, I.lnew (t' := s.toks) (r.append r2) (by rw [List.length_append]; omega), rfl, q _ I.fresh⟩
def rAddAll (K : PySem.W.Frag) : R2 := fun x y H Q => rI0 (fun i j => .int (i + j)) x y H Q ∨ (∃ i j, x = .str i ∧ y = .str j ∧ i.length + j.length ≤ sizeLine ∧ Q (.str (i ++ j)) H) ∨ rCatA K x y H Q ∨ rCatQ K x y H Q
theorem op_addAll : OpR X (binaryOp .Add) (rAddAll X.K) := op_add.or (op_add_str.or (op_catA.or op_catQ))
theorem add_F : OpF K (rAddAll K) dAdd := fun {mg W G H σ Q x y dx dy} ex hx hy q => by
  cases dx with
  | int i =>
    cases dy with
    | int j => exact .inl ⟨i, j, hx.int, hy.int, Post.dt q ex (.int _)⟩
    | _ => exact q.elim
  | str i =>
    cases dy with
    | str j =>
      simp only [dAdd] at q
      by_cases z : i.length + j.length ≤ sizeLine
      · rw [if_pos z] at q; exact .inr (.inl ⟨i, j, hx.str, hy.str, z, Post.dt q ex (.str _)⟩)
      · rw [if_neg z] at q; exact q.elim
    | _ => exact q.elim
  | tup i =>
    cases dy with
    | tup j =>
      simp only [dAdd] at q
      by_cases z : i.length + j.length ≤ sizeLine
      · rw [if_pos z] at q
        obtain ⟨a, xs, rfl, h1, h1', h2⟩ := hx.tup ex
        obtain ⟨b, ys, rfl, g1, g1', g2⟩ := hy.tup ex
        have e1 := h2.length
        have e2 := g2.length
        refine .inr (.inr (.inl ⟨a, b, xs, ys, rfl, rfl, h1, g1, by omega, fun e => ?_, fun _ e => ?_, fun _ _ p n => Post.nt q ex (h2.append g2) n⟩))
        · subst e; cases h2; exact Post.dt q ex (.tup g1' g2)
        · subst e; cases g2; exact Post.dt q ex (.tup h1' (by simpa using h2))
      · rw [if_neg z] at q; exact q.elim
    | _ => exact q.elim
  | lst i =>
    cases dy with
    | lst j =>
      simp only [dAdd] at q
      by_cases z : i.length + j.length ≤ sizeLine
      · rw [if_pos z] at q
        obtain ⟨a, xs, rfl, h1, h2⟩ := hx.seql ex (.inl rfl)
        obtain ⟨b, ys, rfl, g1, g2⟩ := hy.seql ex (.inl rfl)
        have e1 := h2.length
        have e2 := g2.length
        exact .inr (.inr (.inr ⟨a, b, xs, ys, rfl, rfl, h1, g1, by omega, fun p n => Post.nl q ex (h2.append g2) n⟩))
      · rw [if_neg z] at q; exact q.elim
    | scr j =>
      simp only [dAdd] at q
      by_cases z : i.length + j.length ≤ sizeLine
      · rw [if_pos z] at q
        obtain ⟨a, xs, rfl, h1, h2⟩ := hx.seql ex (.inl rfl)
        obtain ⟨b, ys, rfl, g1, g2⟩ := hy.seql ex (.inr rfl)
        have e1 := h2.length
        have e2 := g2.length
        exact .inr (.inr (.inr ⟨a, b, xs, ys, rfl, rfl, h1, g1, by omega, fun p n => Post.nl q ex (h2.append g2) n⟩))
      · rw [if_neg z] at q; exact q.elim
    | _ => exact q.elim
  | scr i =>
    cases dy with
    | lst j =>
      simp only [dAdd] at q
      by_cases z : i.length + j.length ≤ sizeLine
      · rw [if_pos z] at q
        obtain ⟨a, xs, rfl, h1, h2⟩ := hx.seql ex (.inr rfl)
        obtain ⟨b, ys, rfl, g1, g2⟩ := hy.seql ex (.inl rfl)
        have e1 := h2.length
        have e2 := g2.length
        exact .inr (.inr (.inr ⟨a, b, xs, ys, rfl, rfl, h1, g1, by omega, fun p n => Post.nl q ex (h2.append g2) n⟩))
      · rw [if_neg z] at q; exact q.elim
    | _ => exact q.elim
  | _ => cases dy <;> exact q.elim
theorem sub_F : OpF K (rI0 fun i j => .int (i - j)) dSub := fun {mg W G H σ Q x y dx dy} ex hx hy q => by
  cases dx with
  | int i => cases dy with
    | int j => exact ⟨i, j, hx.int, hy.int, Post.dt q ex (.int _)⟩
    | _ => exact q.elim
  | _ => cases dy <;> exact q.elim
def rMulAll : R2 := fun x y H Q => rI CMulW (fun i j => .int (i * j)) x y H Q ∨ rI L2.CMul (fun i j => .int (i * j)) x y H Q ∨ rRep x y H Q
theorem op_mulAll : OpR X (binaryOp .Mult) rMulAll := op_mulW.or (op_mul.or op_rep)
theorem mul_F : OpF K rMulAll dMul := fun {mg W G H σ Q x y dx dy} ex hx hy q => by
  cases dx with
  | int i => cases dy with
    | int j =>
      simp only [dMul] at q
      by_cases z : okMul i j
      · rw [if_pos z] at q
        rcases z with z | z
        · exact .inl ⟨i, j, hx.int, hy.int, z, Post.dt q ex (.int _)⟩
        · exact .inr (.inl ⟨i, j, hx.int, hy.int, z, Post.dt q ex (.int _)⟩)
      · rw [if_neg z] at q; exact q.elim
    | _ => exact q.elim
  | lst l => cases dy with
    | int j =>
      simp only [dMul] at q
      obtain ⟨a, xs, rfl, h1, h2⟩ := hx.lst ex
      have e1 := h2.length
      by_cases z : okRep l.length j
      · rw [if_pos z] at q
        exact .inr (.inr ⟨a, j, xs, rfl, hy.int, h1, z.1, z.2.1, by rw [e1]; exact z.2.2, fun p n => Post.nl q ex (h2.rep _) n⟩)
      · rw [if_neg z] at q; exact q.elim
    | _ => exact q.elim
  | _ => cases dy <;> exact q.elim
theorem div_F : OpF K (rI CDivW fun i j => .int (i / j)) dDiv := fun {mg W G H σ Q x y dx dy} ex hx hy q => by
  cases dx with
  | int i => cases dy with
    | int j =>
      simp only [dDiv] at q
      by_cases z : 0 < j ∧ j.natAbs.log2 < 9000
      · rw [if_pos z] at q; exact ⟨i, j, hx.int, hy.int, z, Post.dt q ex (.int _)⟩
      · rw [if_neg z] at q; exact q.elim
    | _ => exact q.elim
  | _ => cases dy <;> exact q.elim
theorem mod_F : OpF K (rI (fun _ j => 0 < j) fun i j => .int (i % j)) dMod := fun {mg W G H σ Q x y dx dy} ex hx hy q => by
  cases dx with
  | int i => cases dy with
    | int j =>
      simp only [dMod] at q
      by_cases z : 0 < j
      · rw [if_pos z] at q; exact ⟨i, j, hx.int, hy.int, z, Post.dt q ex (.int _)⟩
      · rw [if_neg z] at q; exact q.elim
    | _ => exact q.elim
  | _ => cases dy <;> exact q.elim
theorem pow_F : OpF K (rI CPow fun i j => .int (i ^ j.toNat)) dPow := fun {mg W G H σ Q x y dx dy} ex hx hy q => by
  cases dx with
  | int i => cases dy with
    | int j =>
      simp only [dPow] at q
      by_cases z : 0 ≤ j ∧ j ≤ 1000000 ∧ i.natAbs < 2 ^ 64
      · rw [if_pos z] at q; exact ⟨i, j, hx.int, hy.int, z, Post.dt q ex (.int _)⟩
      · rw [if_neg z] at q; exact q.elim
    | _ => exact q.elim
  | _ => cases dy <;> exact q.elim
theorem neg_F : UnF K (rU fun i => .int (-i)) dNeg := fun {mg W G H σ Q x dx} ex hx q => by
  cases dx with
  | int i => exact ⟨i, hx.int, Post.dt q ex (.int _)⟩
  | _ => exact q.elim
def rLtAll (K : PySem.W.Frag) : R2 := fun x y H Q => rI0 (fun i j => .bl (decide (i < j))) x y H Q ∨ rLtT K x y H Q
theorem op_ltAll (hu : X.A.units < cLine) : OpR X (compareOp .Lt) (rLtAll X.K) := op_lt.or (op_ltT hu)
def rCmpG (K : PySem.W.Frag) (f : PyData → PyData → Bool) : R2 := fun x y H Q => ∃ dx dy : PyData, Dp K H x dx ∧ Dp K H y dy ∧ PySem.W.alike dx dy = true ∧ dx ≠ .none ∧ dx.depth ≤ 9 ∧ Q (.bl (f dx dy)) H
theorem op_ltG {X : Cx} (hu : X.A.units + 66 < cLine) : OpR X (compareOp .Lt) (rCmpG X.K PySem.W.dataLt) := by
  intro pins s σ H x y v u Q I rx ry h
  obtain ⟨dx, dy, h1, h2, h3, h4, h5, q⟩ := h
  obtain ⟨as, r1⟩ := Dp.reads I dx x v h1 rx
  obtain ⟨bs, r2⟩ := Dp.reads I dy y u h2 ry
  exact PySem.W.lt_data r1 r2 h3 h4 (by omega) ⟨.bl _, H, I, rfl, q⟩
theorem op_gtG {X : Cx} (hu : X.A.units + 66 < cLine) : OpR X (compareOp .Gt) (rCmpG X.K fun x y => PySem.W.dataLt y x) := by
  intro pins s σ H x y v u Q I rx ry h
  obtain ⟨dx, dy, h1, h2, h3, h4, h5, q⟩ := h
  obtain ⟨as, r1⟩ := Dp.reads I dx x v h1 rx
  obtain ⟨bs, r2⟩ := Dp.reads I dy y u h2 ry
  exact PySem.W.gt_data r1 r2 h3 h4 (by omega) ⟨.bl _, H, I, rfl, q⟩
theorem op_leG {X : Cx} (hu : X.A.units + 66 < cLine) : OpR X (compareOp .LtE) (rCmpG X.K fun x y => !PySem.W.dataLt y x) := by
  intro pins s σ H x y v u Q I rx ry h
  obtain ⟨dx, dy, h1, h2, h3, h4, h5, q⟩ := h
  obtain ⟨as, r1⟩ := Dp.reads I dx x v h1 rx
  obtain ⟨bs, r2⟩ := Dp.reads I dy y u h2 ry
  exact PySem.W.le_data r1 r2 h3 h4 (by omega) ⟨.bl _, H, I, rfl, q⟩
theorem op_geG {X : Cx} (hu : X.A.units + 66 < cLine) : OpR X (compareOp .GtE) (rCmpG X.K fun x y => !PySem.W.dataLt x y) := by
  intro pins s σ H x y v u Q I rx ry h
  obtain ⟨dx, dy, h1, h2, h3, h4, h5, q⟩ := h
  obtain ⟨as, r1⟩ := Dp.reads I dx x v h1 rx
  obtain ⟨bs, r2⟩ := Dp.reads I dy y u h2 ry
  exact PySem.W.ge_data r1 r2 h3 h4 (by omega) ⟨.bl _, H, I, rfl, q⟩
theorem cmp_G {f : PyData → PyData → Bool} {mg : Str → Option Value} {W : WX} {G H : Hp} {σ : L2.St} {Q : VK} {x y : V} {dx dy : D} (ex : Ex G H) (hx : RdV K G H x dx) (hy : RdV K G H y dy) (q : Post K mg W (RO K) ((cmpG f dx dy).bnd okT) σ G H Q) : rCmpG K f x y H Q := by
  unfold cmpG at q
  by_cases z : okCmp dx dy
  · rw [if_pos z] at q
    obtain ⟨z1, z2, z3, z4⟩ := z
    have hd := (okE_py 8 dx z1).2
    exact ⟨pyD dx, pyD dy, hx.dp ex z1, hy.dp ex z2, z3, z4, by omega, Post.dt q ex (.bl _)⟩
  · rw [if_neg z] at q; exact q.elim
def rLtG (K : PySem.W.Frag) : R2 := fun x y H Q => rLtAll K x y H Q ∨ rCmpG K PySem.W.dataLt x y H Q
def rLeG (K : PySem.W.Frag) : R2 := fun x y H Q => rI0 (fun i j => .bl (decide (i ≤ j))) x y H Q ∨ rCmpG K (fun x y => !PySem.W.dataLt y x) x y H Q
def rGtG (K : PySem.W.Frag) : R2 := fun x y H Q => rI0 (fun i j => .bl (decide (j < i))) x y H Q ∨ rCmpG K (fun x y => PySem.W.dataLt y x) x y H Q
def rGeG (K : PySem.W.Frag) : R2 := fun x y H Q => rI0 (fun i j => .bl (decide (j ≤ i))) x y H Q ∨ rCmpG K (fun x y => !PySem.W.dataLt x y) x y H Q
theorem lt_F : OpF K (rLtG K) dLt := fun {mg W G H σ Q x y dx dy} ex hx hy q => by
  cases dx with
  | int i => cases dy with
    | int j => exact .inl (.inl ⟨i, j, hx.int, hy.int, Post.dt q ex (.bl _)⟩)
    | _ => exact q.elim
  | tup i => cases dy with
    | tup j =>
      simp only [dLt] at q
      cases z1 : intsOf i with
      | none => rw [z1] at q; exact .inr (cmp_G ex hx hy q)
      | some ns =>
        cases z2 : intsOf j with
        | none => rw [z1, z2] at q; exact .inr (cmp_G ex hx hy q)
        | some ms =>
          rw [z1, z2] at q
          obtain ⟨a, xs, rfl, h1, h1', h2⟩ := hx.tup ex
          obtain ⟨b, ys, rfl, g1, g1', g2⟩ := hy.tup ex
          have e1 := intsOf_is h2 z1
          have e2 := intsOf_is g2 z2
          subst e1 e2
          exact .inl (.inr ⟨a, b, ns, ms, rfl, rfl, h1, g1, Post.dt q ex (.bl _)⟩)
    | _ => exact q.elim
  | _ => cases dy <;> exact q.elim
theorem le_F : OpF K (rLeG K) dLe := fun {mg W G H σ Q x y dx dy} ex hx hy q => by
  cases dx with
  | int i => cases dy with
    | int j => exact .inl ⟨i, j, hx.int, hy.int, Post.dt q ex (.bl _)⟩
    | _ => exact q.elim
  | tup i => cases dy with
    | tup j => exact .inr (cmp_G ex hx hy q)
    | _ => exact q.elim
  | _ => cases dy <;> exact q.elim
theorem gt_F : OpF K (rGtG K) dGt := fun {mg W G H σ Q x y dx dy} ex hx hy q => by
  cases dx with
  | int i => cases dy with
    | int j => exact .inl ⟨i, j, hx.int, hy.int, Post.dt q ex (.bl _)⟩
    | _ => exact q.elim
  | tup i => cases dy with
    | tup j => exact .inr (cmp_G ex hx hy q)
    | _ => exact q.elim
  | _ => cases dy <;> exact q.elim
theorem ge_F : OpF K (rGeG K) dGe := fun {mg W G H σ Q x y dx dy} ex hx hy q => by
  cases dx with
  | int i => cases dy with
    | int j => exact .inl ⟨i, j, hx.int, hy.int, Post.dt q ex (.bl _)⟩
    | _ => exact q.elim
  | tup i => cases dy with
    | tup j => exact .inr (cmp_G ex hx hy q)
    | _ => exact q.elim
  | _ => cases dy <;> exact q.elim
theorem eq_F : OpF K (rEqD K) dEq := fun {mg W G H σ Q x y dx dy} ex hx hy q => by
  unfold dEq at q
  by_cases z : okE 8 dx = true ∧ okE 8 dy = true
  · rw [if_pos z] at q
    refine ⟨pyD dx, pyD dy, hx.dp ex z.1, hy.dp ex z.2, okE_shaped (by decide) z.1, okE_shaped (by decide) z.2, ?_⟩
    rw [eqD_py 8 dx dy z.1 z.2]
    exact Post.dt q ex (.bl _)
  · rw [if_neg z] at q; exact q.elim
theorem ne_F : OpF K (rNeD K) dNe := fun {mg W G H σ Q x y dx dy} ex hx hy q => by
  unfold dNe at q
  by_cases z : okE 8 dx = true ∧ okE 8 dy = true
  · rw [if_pos z] at q
    refine ⟨pyD dx, pyD dy, hx.dp ex z.1, hy.dp ex z.2, okE_shaped (by decide) z.1, okE_shaped (by decide) z.2, ?_⟩
    rw [eqD_py 8 dx dy z.1 z.2]
    exact Post.dt q ex (.bl _)
  · rw [if_neg z] at q; exact q.elim
def rIsNon : R2 := fun x y H Q => (y = .non ∧ Q (.bl (decide (x = .non))) H) ∨ ∃ a b, x = .bl a ∧ y = .bl b ∧ Q (.bl (decide (a = b))) H
def rNotNon : R2 := fun x y H Q => (y = .non ∧ Q (.bl (!decide (x = .non))) H) ∨ ∃ a b, x = .bl a ∧ y = .bl b ∧ Q (.bl (!decide (a = b))) H
theorem bl_beq (a b : Bool) : (Value.bool a == Value.bool b) = decide (a = b) := by
  by_cases e : a = b
  · subst e
    exact (beq_self_eq_true (Value.bool a)).trans (decide_eq_true (p := a = a) rfl).symm
  · exact (beq_eq_false_iff_ne.mpr fun z => e (Value.bool.inj z)).trans (decide_eq_false e).symm
theorem op_isNon : OpR X (compareOp .Is) rIsNon := by
  intro pins s σ H x y v u Q I rx ry h
  rcases h with h | ⟨a, b, rfl, rfl, q⟩
  · exact op_isN pins s σ H x y v u Q I rx ry h
  · cases (show v = Value.bool a from rx)
    cases (show u = Value.bool b from ry)
    exact wpAny_is_plain rfl (fin_bl I q (bl_beq a b).symm)
theorem op_notNon : OpR X (compareOp .IsNot) rNotNon := by
  intro pins s σ H x y v u Q I rx ry h
  rcases h with h | ⟨a, b, rfl, rfl, q⟩
  · exact op_notN pins s σ H x y v u Q I rx ry h
  · cases (show v = Value.bool a from rx)
    cases (show u = Value.bool b from ry)
    exact wpAny_isNot_plain rfl (fin_bl I q (congrArg not (bl_beq a b).symm))
theorem is_F : OpF K rIsNon dIs := fun {mg W G H σ Q x y dx dy} ex hx hy q => by
  cases dy with
  | non =>
    refine .inl ⟨hy.non, ?_⟩
    rw [hx.isNon]; exact Post.dt q ex (.bl _)
  | bl b =>
    cases dx with
    | bl a => exact .inr ⟨a, b, hx.bl, hy.bl, Post.dt q ex (.bl _)⟩
    | _ => exact q.elim
  | _ => exact q.elim
theorem isn_F : OpF K rNotNon dIsN := fun {mg W G H σ Q x y dx dy} ex hx hy q => by
  cases dy with
  | non =>
    refine .inl ⟨hy.non, ?_⟩
    rw [hx.isNon]; exact Post.dt q ex (.bl _)
  | bl b =>
    cases dx with
    | bl a => exact .inr ⟨a, b, hx.bl, hy.bl, Post.dt q ex (.bl _)⟩
    | _ => exact q.elim
  | _ => exact q.elim
end
end FL
namespace FL
open PySem L2

section
variable {X : Cx} {W : WX} {a b c e : Expr} {es rest : List Expr} {fa fb fc : FE} {pos p p2 : Pos} {ga gb : FB}

def eAnd (g : FB) (f : FE) : FE := fun ρ => (g ρ).bnd fun b => if b = true then f ρ else .ok (.tmp (.dat (.bl false)))
def eOr (g : FB) (f : FE) : FE := fun ρ => (g ρ).bnd fun b => if b = true then .ok (.tmp (.dat (.bl true))) else f ρ
def eNot (g : FB) : FE := fun ρ => (g ρ).bnd fun b => .ok (.tmp (.dat (.bl (!b))))
def eIf (g : FB) (fa fb : FE) : FE := fun ρ => (g ρ).bnd fun b => if b = true then fa ρ else fb ρ
def bAnd (g h : FB) : FB := fun ρ => (g ρ).bnd fun b => if b = true then h ρ else .ok false
def bOr (g h : FB) : FB := fun ρ => (g ρ).bnd fun b => if b = true then .ok true else h ρ
def bNot (g : FB) : FB := fun ρ => (g ρ).bnd fun b => .ok (!b)
abbrev EW (X : Cx) (W : WX) (e : Expr) (f : FB) : Prop := PW X e (tB (tG X.K X.mg W RB f))
theorem ee_one {op : BoolOp} {f : FE} (h : EE X W a f) : EE X W (.BoolOp op [a] pos) f := pe_one h
theorem ee_and (ha : EB X W a ga) (hb : EE X W (.BoolOp .And (b :: rest) pos) fb) : EE X W (.BoolOp .And (a :: b :: rest) pos) (eAnd ga fb) :=
  PEimp (pe_and ha hb) fun σ H Q ⟨ρ, G, fp, c, q⟩ => seqE (R := RB) c q fun x v G1 H1 f _ g q1 => ⟨x, g.rep.2, by
    cases x with
    | true => exact ⟨ρ, G1, fp, g.conf c, q1⟩
    | false => exact Post.dt q1 g.x (.bl _)⟩
theorem ee_or (ha : EB X W a ga) (hb : EE X W (.BoolOp .Or (b :: rest) pos) fb) : EE X W (.BoolOp .Or (a :: b :: rest) pos) (eOr ga fb) :=
  PEimp (pe_or ha hb) fun σ H Q ⟨ρ, G, fp, c, q⟩ => seqE (R := RB) c q fun x v G1 H1 f _ g q1 => ⟨x, g.rep.2, by
    cases x with
    | false => exact ⟨ρ, G1, fp, g.conf c, q1⟩
    | true => exact Post.dt q1 g.x (.bl _)⟩
theorem ee_not (ha : EB X W a ga) : EE X W (.UnaryOp .Not a pos) (eNot ga) :=
  PEimp (pe_not ha) fun σ H Q ⟨ρ, G, fp, c, q⟩ => seqE (R := RB) c q fun x v G1 H1 f _ g q1 => ⟨x, g.rep.2, Post.dt q1 g.x (.bl _)⟩
theorem bt_step {K : PySem.W.Frag} {mg : Str → Option Value} {G H : Hp} {σ : L2.St} {Q : Bool → Hp → Prop} {b : Bool} (h : Post K mg W RB (.ok b) σ G H (fun x H' => ∃ c, x = V.bl c ∧ Q c H')) (x : Ex G H) : Q b H := by
  obtain ⟨c, e, q⟩ := h (.bl b) G H [] ⟨Gr.refl, Ex.refl _, x, ⟨rfl, rfl⟩, List.nodup_nil, fun _ z => by cases z⟩
  cases e
  exact q
theorem et_if (hc : ET X W c gb) (ha : EE X W a fa) (hb : EE X W b fb) : EE X W (.IfExp c a b pos) (eIf gb fa fb) :=
  PEimp (pe_ifExp hc ha hb) fun σ H Q ⟨ρ, G, fp, c, q⟩ => seqE (R := RB) c q fun x v G1 H1 f _ g q1 => ⟨x, g.rep.2, by
    cases x with
    | true => exact ⟨ρ, G1, fp, g.conf c, q1⟩
    | false => exact ⟨ρ, G1, fp, g.conf c, q1⟩⟩
theorem et_w {f : FB} (h : EW X W e f) : ET X W e f := h.pt
theorem ew_and1 (h : ET X W a ga) : EW X W (.BoolOp .And [a] pos) ga := pw_and1 h
theorem ew_or1 (h : ET X W a ga) : EW X W (.BoolOp .Or [a] pos) ga := pw_or1 h
theorem ew_and (h : ET X W a ga) (hb : EW X W (.BoolOp .And (b :: rest) pos) gb) : EW X W (.BoolOp .And (a :: b :: rest) pos) (bAnd ga gb) :=
  PWimp (pw_and h hb) fun σ H Q ⟨ρ, G, fp, c, q⟩ => seqE (R := RB) c q fun x v G1 H1 f _ g q1 => ⟨x, g.rep.2, by
    cases x with
    | true => exact ⟨ρ, G1, fp, g.conf c, q1⟩
    | false => exact bt_step q1 g.x⟩
theorem ew_or (h : ET X W a ga) (hb : EW X W (.BoolOp .Or (b :: rest) pos) gb) : EW X W (.BoolOp .Or (a :: b :: rest) pos) (bOr ga gb) :=
  PWimp (pw_or h hb) fun σ H Q ⟨ρ, G, fp, c, q⟩ => seqE (R := RB) c q fun x v G1 H1 f _ g q1 => ⟨x, g.rep.2, by
    cases x with
    | false => exact ⟨ρ, G1, fp, g.conf c, q1⟩
    | true => exact bt_step q1 g.x⟩
theorem et_not (h : ET X W a ga) : ET X W (.UnaryOp .Not a pos) (bNot ga) :=
  PTimp (pt_not h) fun σ H Q ⟨ρ, G, fp, c, q⟩ => seqE (R := RB) c q fun x v G1 H1 f _ g q1 => ⟨x, g.rep.2, bt_step q1 g.x⟩
def eChain (g g' : D → D → Rs O) (fa fb fc : FE) : FE := fun ρ => (rdE fa ρ).bnd fun x => (rdE fb ρ).bnd fun y => ((g x y).bnd okT).bnd fun z => (toRs ((dOf z).bind bOf)).bnd fun k =>
  if k = true then (rdE fc ρ).bnd fun w => (g' y w).bnd okT else .ok (.tmp (.dat (.bl false)))
theorem imp_chain {K : PySem.W.Frag} {mg : Str → Option Value} {g g' : D → D → Rs O} {r r' : R2} (hg : OpF K r g) (hg' : OpF K r' g') {σ : L2.St} {H : Hp} {Q : VK} (h : tG K mg W (RO K) (eChain g g' fa fb fc) σ H Q) :
    tChain r r' (tG K mg W (RR K) (rdE fa)) (tG K mg W (RR K) (rdE fb)) (tG K mg W (RR K) (rdE fc)) σ H Q := by
  obtain ⟨ρ, G, fp, c, q⟩ := h
  refine seqE (R := RR K) c q fun x v G1 H1 f _ g1 q1 => seqE (R := RR K) (g1.conf c) q1 fun y w G2 H2 f2 _ g2 q2 => ?_
  refine hg (mg := mg) (W := W) (σ := σ) g2.x (g1.rep.2.mono g2.gr.ex g2.eh) g2.rep.2 ?_
  cases z : (g x y).bnd okT with
  | exc c fs => rw [z] at q2; exact q2
  | bad => rw [z] at q2; exact q2
  | ok o =>
    rw [z] at q2
    intro u G3 H3 f3 g3
    simp only [Rs.bnd_ok] at q2
    cases z2 : dOf o with
    | none => rw [z2] at q2; exact q2.elim
    | some d =>
      rw [z2] at q2
      obtain ⟨G4, g4⟩ := g3.data z2
      cases d with
      | bl k =>
        refine ⟨k, g4.rep.2.bl_inv, ?_⟩
        have q3 := Post.step g4.gr g4.eh q2
        cases k with
        | true =>
          exact seqE (R := RR K) (g4.conf (g2.conf (g1.conf c))) q3 fun s t G5 H5 f5 _ g5 q5 => hg' g5.x ((g2.rep.2.mono g4.gr.ex g4.eh).mono g5.gr.ex g5.eh) g5.rep.2 q5
        | false => exact Post.dt q3 g4.x (.bl _)
      | _ => exact q2.elim
theorem ee_chain {op op' : CmpOp} {r r' : R2} {g g' : D → D → Rs O} (ho : OpR X (compareOp op) r) (hg : OpF X.K r g) (ho' : OpR X (compareOp op') r') (hg' : OpF X.K r' g') (ha : EE X W a fa) (hb : EE X W b fb) (hc : EE X W c fc)
    (hm : lastMarks [op, op'] [b, c] = false := by with_unfolding_all rfl) : EE X W (.Compare a [op, op'] [b, c] pos) (eChain g g' fa fb fc) :=
  PEimp (pe_chain ho ho' (to_rd ha) (to_rd hb) (to_rd hc) hm) fun _ _ _ q => imp_chain hg hg' q
theorem et_chain {op op' : CmpOp} {r r' : R2} {g g' : D → D → Rs O} (ho : OpR X (compareOp op) r) (hg : OpF X.K r g) (ho' : OpR X (compareOp op') r') (hg' : OpF X.K r' g') (ha : EE X W a fa) (hb : EE X W b fb) (hc : EE X W c fc)
    (hm : lastMarks [op, op'] [b, c] = false := by with_unfolding_all rfl) : ET X W (.Compare a [op, op'] [b, c] pos) (bE (eChain g g' fa fb fc)) :=
  PTimp (pt_chain ho ho' (to_rd ha) (to_rd hb) (to_rd hc) hm) fun _ _ _ q => imp_chain hg hg' (imp_b q)

def atD (l : List D) (i : Int) : Option D := atI l i
def dIx : D → D → Rs O
  | .lst l, .int i => match atD l i with
    | some d => .ok (.dat d)
    | none => .bad
  | .scr l, .int i => match atD l i with
    | some d => .ok (.dat d)
    | none => .bad
  | .tup l, .int i => match atD l i with
    | some d => .ok (.dat d)
    | none => .bad
  | .str s, .int i => if s.length ≤ sizeLine then match atI s.cps.toList i with
    | some c => .ok (.dat (.str ⟨#[c]⟩))
    | none => .bad else .bad
  | _, _ => .bad
theorem at_is {K : PySem.W.Frag} {G : Hp} {xs : List V} {l : List D} {i : Int} {d : D} (h : IsDs K G xs l) (e : atD l i = some d) : ∃ v, atI xs i = some v ∧ IsD K G v d := by
  unfold atD atI at e
  unfold atI
  rw [h.length]
  cases z : ixN l.length i with
  | none => rw [z] at e; cases e
  | some j =>
    rw [z] at e
    exact h.get (i := j) (d := d) e
theorem ix_F {K : PySem.W.Frag} : OpF K (rIx K) dIx := fun {mg W G H σ Q x y dx dy} ex hx hy q => by
  cases dx with
  | lst l => cases dy with
    | int i =>
      simp only [dIx] at q
      cases z : atD l i with
      | none => rw [z] at q; exact q.elim
      | some d =>
        rw [z] at q
        obtain ⟨a, xs, rfl, h1, h2⟩ := hx.seql ex (.inl rfl)
        obtain ⟨v, g1, g2⟩ := at_is h2 z
        exact .inl ⟨a, xs, i, v, rfl, hy.int, h1, g1, Post.dt q ex g2⟩
    | _ => exact q.elim
  | scr l => cases dy with
    | int i =>
      simp only [dIx] at q
      cases z : atD l i with
      | none => rw [z] at q; exact q.elim
      | some d =>
        rw [z] at q
        obtain ⟨a, xs, rfl, h1, h2⟩ := hx.seql ex (.inr rfl)
        obtain ⟨v, g1, g2⟩ := at_is h2 z
        exact .inl ⟨a, xs, i, v, rfl, hy.int, h1, g1, Post.dt q ex g2⟩
    | _ => exact q.elim
  | tup l => cases dy with
    | int i =>
      simp only [dIx] at q
      cases z : atD l i with
      | none => rw [z] at q; exact q.elim
      | some d =>
        rw [z] at q
        obtain ⟨a, xs, rfl, h1, _, h2⟩ := hx.tup ex
        obtain ⟨v, g1, g2⟩ := at_is h2 z
        exact .inr (.inl ⟨a, xs, i, v, rfl, hy.int, h1, g1, Post.dt q ex g2⟩)
    | _ => exact q.elim
  | str s => cases dy with
    | int i =>
      simp only [dIx] at q
      by_cases hz : s.length ≤ sizeLine
      · rw [if_pos hz] at q
        cases z : atI s.cps.toList i with
        | none => rw [z] at q; exact q.elim
        | some d =>
          rw [z] at q
          exact .inr (.inr ⟨s, i, d, hx.str, hy.int, hz, z, Post.dt q ex (.str _)⟩)
      · rw [if_neg hz] at q; exact q.elim
    | _ => exact q.elim
  | _ => exact q.elim
theorem ee_ix (ha : EE X W a fa) (hb : EE X W b fb) (hs : PlainIx b) : EE X W (.Subscript a b pos) (eOp dIx fa fb) :=
  PEimp (pe_ix ix_seq (to_rd ha) (to_rd hb) hs) fun _ _ _ q => imp_op ix_F q

abbrev FO := Env → Rs (Option Int)
abbrev EO (X : Cx) (W : WX) (e : Option Expr) (f : FO) : Prop := PO X e (tG X.K X.mg W RI f)
def iOf : D → Option Int
  | .int i => some i
  | _ => none
def oNo : FO := fun _ => .ok none
def oSo (fa : FE) : FO := fun ρ => (rdE fa ρ).bnd fun d => toRs ((iOf d).map some)
theorem eo_none : EO X W none oNo := POimp po_none fun σ H Q ⟨ρ, G, fp, c, q⟩ => q none G H [] ⟨Gr.refl, Ex.refl _, c.ex, ⟨rfl, rfl⟩, List.nodup_nil, fun _ z => by cases z⟩
theorem eo_some (ha : EE X W a fa) : EO X W (some a) (oSo fa) := POimp (po_some (to_rd ha)) fun σ H Q ⟨ρ, G, fp, c, q⟩ => seqE (R := RR X.K) c q fun d v G1 H1 f _ g q1 => by
  cases d with
  | int i => exact ⟨i, g.rep.2.int, q1 (some i) G1 H1 [] ⟨Gr.refl, Ex.refl _, g.x, ⟨rfl, rfl⟩, List.nodup_nil, fun _ z => by cases z⟩⟩
  | _ => exact q1.elim
def cutD {α : Type} (xs : List α) (lo hi : Option Int) : List α := (xs.drop (HT.sIx xs.length 0 lo)).take (HT.sIx xs.length xs.length hi - HT.sIx xs.length 0 lo)
def dSl : D → Option Int → Option Int → Rs O
  | .tup l, lo, hi => .ok (.dat (.tup (cutD l lo hi)))
  | .lst l, lo, hi => .ok (.node .lst ((cutD l lo hi).map .dat))
  | .scr l, lo, hi => .ok (.node .lst ((cutD l lo hi).map .dat))
  | .str s, lo, hi => if s.length ≤ sizeLine then .ok (.dat (.str (cutS s lo hi))) else .bad
  | _, _, _ => .bad
def rSlAll (K : PySem.W.Frag) : V → Option Int → Option Int → Hp → VK → Prop := fun x lo hi H Q => rSlA K x lo hi H Q ∨ rSlL K x lo hi H Q ∨ rSlS x lo hi H Q
theorem sl_all : SlR X (rSlAll X.K) := sl_tupA.or (sl_list.or sl_str)
theorem cut_is {K : PySem.W.Frag} {G : Hp} {xs : List V} {l : List D} (h : IsDs K G xs l) (lo hi : Option Int) : IsDs K G (cutV xs lo hi) (cutD l lo hi) := by
  unfold cutV cutD
  rw [h.length]
  exact (h.drop _).take _
theorem sl_F {K : PySem.W.Frag} {mg : Str → Option Value} {W : WX} {G H : Hp} {σ : L2.St} {Q : VK} {x : V} {dx : D} {lo hi : Option Int} (ex : Ex G H) (hx : RdV K G H x dx) (q : Post K mg W (RO K) ((dSl dx lo hi).bnd okT) σ G H Q) : rSlAll K x lo hi H Q := by
  cases dx with
  | tup l =>
    obtain ⟨a, xs, rfl, h1, h1', h2⟩ := hx.tup ex
    have ec := cut_is h2 lo hi
    refine .inl ⟨a, xs, rfl, h1, fun ⟨z1, z2⟩ => ?_, fun _ p n => Post.nt q ex ec n⟩
    have e : cutV xs lo hi = xs := by unfold cutV; rw [z1, z2]; simp
    rw [e] at ec
    exact Post.dt q ex (.tup h1' ec)
  | lst l =>
    obtain ⟨a, xs, rfl, h1, h2⟩ := hx.seql ex (.inl rfl)
    exact .inr (.inl ⟨a, xs, rfl, h1, fun p n => Post.nl q ex (cut_is h2 lo hi) n⟩)
  | scr l =>
    obtain ⟨a, xs, rfl, h1, h2⟩ := hx.seql ex (.inr rfl)
    exact .inr (.inl ⟨a, xs, rfl, h1, fun p n => Post.nl q ex (cut_is h2 lo hi) n⟩)
  | str s =>
    simp only [dSl] at q
    by_cases hz : s.length ≤ sizeLine
    · rw [if_pos hz] at q; exact .inr (.inr ⟨s, hx.str, hz, Post.dt q ex (.str _)⟩)
    · rw [if_neg hz] at q; exact q.elim
  | _ => exact q.elim
def eSl (fa : FE) (fl fh : FO) : FE := fun ρ => (rdE fa ρ).bnd fun x => (fl ρ).bnd fun lo => (fh ρ).bnd fun hi => (dSl x lo hi).bnd okT
theorem ee_slice {lo hi : Option Expr} {fl fh : FO} (ha : EE X W a fa) (hl : EO X W lo fl) (hh : EO X W hi fh) : EE X W (.Subscript a (.Slice lo hi none p2) pos) (eSl fa fl fh) :=
  PEimp (pe_slice sl_all (to_rd ha) hl hh) fun σ H Q ⟨ρ, G, fp, c, q⟩ => seqE (R := RR X.K) c q fun d v G1 H1 f _ g q1 => seqE (R := RI) (g.conf c) q1 fun l vl G2 H2 f2 _ g2 q2 => seqE (R := RI) (g2.conf (g.conf c)) q2 fun h vh G3 H3 f3 _ g3 q3 => by
    have e1 : vl = l := g2.rep.2
    have e2 : vh = h := g3.rep.2
    subst e1 e2
    exact sl_F g3.x ((g.rep.2.mono g2.gr.ex g2.eh).mono g3.gr.ex g3.eh) q3

abbrev FA := Env → Rs (List D)
abbrev EA (X : Cx) (W : WX) (es : List Expr) (f : FA) : Prop := PA X es (tG X.K X.mg W (RA X.K) f)
def aNil : FA := fun _ => .ok []
def aCons (fa : FE) (fr : FA) : FA := fun ρ => (dE fa ρ).bnd fun d => (fr ρ).bnd fun ds => .ok (d :: ds)
theorem ea_nil : EA X W [] aNil := PAimp pa_nil fun σ H Q ⟨ρ, G, fp, c, q⟩ => q [] G H [] ⟨Gr.refl, Ex.refl _, c.ex, ⟨rfl, .nil⟩, List.nodup_nil, fun _ z => by cases z⟩
theorem ea_cons {fr : FA} (ha : EE X W e fa) (hr : EA X W es fr) (hs : starEach (e :: es) X.env = (false, eval e X.env) :: starEach es X.env := by rfl) : EA X W (e :: es) (aCons fa fr) :=
  PAimp (pa_cons (to_d ha) hr hs) fun σ H Q ⟨ρ, G, fp, c, q⟩ => seqE (R := RD X.K) c q fun d v G1 H1 f _ g q1 => seqE (R := RA X.K) (g.conf c) q1 fun ds vs G2 H2 f2 _ g2 q2 =>
    q2 (v :: vs) G2 H2 [] ⟨Gr.refl, Ex.refl _, g2.x, ⟨rfl, .cons (g.rep.2.mono g2.gr.ex) g2.rep.2⟩, List.nodup_nil, fun _ z => by cases z⟩
inductive RdVs (K : PySem.W.Frag) (G H : Hp) : List V → List D → Prop
  | nil : RdVs K G H [] []
  | cons {v : V} {d : D} {vs : List V} {ds : List D} : RdV K G H v d → RdVs K G H vs ds → RdVs K G H (v :: vs) (d :: ds)
def RAr (K : PySem.W.Frag) (G H : Hp) (σ : L2.St) (vs : List V) (ds : List D) (f : List Addr) : Prop := f = [] ∧ RdVs K G H vs ds
abbrev ER (X : Cx) (W : WX) (es : List Expr) (f : FA) : Prop := PA X es (tG X.K X.mg W (RAr X.K) f)
def rCons (fa : FE) (fr : FA) : FA := fun ρ => (rdE fa ρ).bnd fun d => (fr ρ).bnd fun ds => .ok (d :: ds)
theorem er_nil : ER X W [] aNil := PAimp pa_nil fun σ H Q ⟨ρ, G, fp, c, q⟩ => q [] G H [] ⟨Gr.refl, Ex.refl _, c.ex, ⟨rfl, .nil⟩, List.nodup_nil, fun _ z => by cases z⟩
theorem er_cons {fr : FA} (ha : EE X W e fa) (hr : ER X W es fr) (hs : starEach (e :: es) X.env = (false, eval e X.env) :: starEach es X.env := by rfl) : ER X W (e :: es) (rCons fa fr) :=
  PAimp (pa_cons (to_rd ha) hr hs) fun σ H Q ⟨ρ, G, fp, c, q⟩ => seqE (R := RR X.K) c q fun d v G1 H1 f _ g q1 => seqE (R := RAr X.K) (g.conf c) q1 fun ds vs G2 H2 f2 _ g2 q2 =>
    q2 (v :: vs) G2 H2 [] ⟨Gr.refl, Ex.refl _, g2.x, ⟨rfl, .cons (g.rep.2.mono g2.gr.ex g2.eh) g2.rep.2⟩, List.nodup_nil, fun _ z => by cases z⟩
def dTup (l : List D) : Rs O := if l.length ≤ sizeLine then .ok (.dat (.tup l)) else .bad
def dLst (l : List D) : Rs O := if l.length ≤ sizeLine then .ok (.node .lst (l.map .dat)) else .bad
def eFn (g : List D → Rs O) (fa : FA) : FE := fun ρ => (fa ρ).bnd fun ds => (g ds).bnd okT
theorem ee_tup {f : FA} {x1 : Nat} (h : EA X W es f) : EE X W (.Tuple es x1 pos) (eFn dTup f) := PEimp (pe_tup h) fun σ H Q ⟨ρ, G, fp, c, q⟩ => seqE (R := RA X.K) c q fun ds vs G1 H1 f _ g q1 => by
  unfold dTup at q1
  by_cases z : ds.length ≤ sizeLine
  · rw [if_pos z] at q1
    have e := g.rep.2.length
    exact ⟨by omega, fun p n => Post.nt q1 g.x g.rep.2 n⟩
  · rw [if_neg z] at q1; exact q1.elim
theorem ee_lst {f : FA} (h : EA X W es f) : EE X W (.List es pos) (eFn dLst f) := PEimp (pe_lst h) fun σ H Q ⟨ρ, G, fp, c, q⟩ => seqE (R := RA X.K) c q fun ds vs G1 H1 f _ g q1 => by
  unfold dLst at q1
  by_cases z : ds.length ≤ sizeLine
  · rw [if_pos z] at q1
    have e := g.rep.2.length
    exact ⟨by omega, fun p n => Post.nl q1 g.x g.rep.2 n⟩
  · rw [if_neg z] at q1; exact q1.elim

def CallF (K : PySem.W.Frag) (r : List V → Hp → VK → Prop) (g : List D → Rs O) : Prop := ∀ {mg : Str → Option Value} {W : WX} {G H : Hp} {σ : L2.St} {Q : VK} {vs : List V} {ds : List D},
  Ex G H → RdVs K G H vs ds → Post K mg W (RO K) ((g ds).bnd okT) σ G H Q → r vs H Q
theorem imp_fn {K : PySem.W.Frag} {mg : Str → Option Value} {g : List D → Rs O} {r : List V → Hp → VK → Prop} (hg : CallF K r g) {f : FA} {σ : L2.St} {H : Hp} {Q : VK} (h : tG K mg W (RO K) (eFn g f) σ H Q) : tCB r (tG K mg W (RAr K) f) σ H Q := by
  obtain ⟨ρ, G, fp, c, q⟩ := h
  exact seqE (R := RAr K) c q fun ds vs G1 H1 f1 _ g1 q1 => hg g1.x g1.rep.2 q1
theorem ee_callB {x : Str} {id : String} {r : List V → Hp → VK → Prop} {g : List D → Rs O} {f : FA} (hc : CallR X (.builtin id) r) (hg : CallF X.K r g) (hgl : Gl X x) (hm : X.mg x = none) (hv : bootBuiltins x = some (.builtin id)) (ha : ER X W (e :: es) f)
    (hn : x ≠ "__name__" := by decide) (hdb : (x == ("__debug__" : Str)) = false := by decide)
    (he : starEach (e :: es) X.env = (false, eval e X.env) :: starEach es X.env := by rfl) (hpl : (backTo pos (starEach es X.env)).any (·.1) = false := by rfl) : EE X W (.Call (.Name x p) (e :: es) [] pos) (eFn g f) :=
  PEimp (pe_callB hc hgl hm hv ha hn hdb he hpl) fun _ _ _ q => imp_fn hg q
theorem ee_callTy {x : Str} {T : String} {r : List V → Hp → VK → Prop} {g : List D → Rs O} {f : FA} (hc : CallR X (.type T) r) (hg : CallF X.K r g) (hgl : Gl X x) (hm : X.mg x = none) (hv : bootBuiltins x = some (.type T)) (ha : ER X W (e :: es) f)
    (hn : x ≠ "__name__" := by decide) (hdb : (x == ("__debug__" : Str)) = false := by decide)
    (he : starEach (e :: es) X.env = (false, eval e X.env) :: starEach es X.env := by rfl) (hpl : (backTo pos (starEach es X.env)).any (·.1) = false := by rfl) : EE X W (.Call (.Name x p) (e :: es) [] pos) (eFn g f) :=
  PEimp (pe_callTy hc hgl hm hv ha hn hdb he hpl) fun _ _ _ q => imp_fn hg q
end
def dLen : List D → Rs O
  | [.lst l] => .ok (.dat (.int l.length))
  | [.scr l] => .ok (.dat (.int l.length))
  | [.tup l] => .ok (.dat (.int l.length))
  | [.str s] => if s.length ≤ sizeLine then .ok (.dat (.int s.length)) else .bad
  | _ => .bad
def dList : List D → Rs O
  | [.lst l] => .ok (.node .lst (l.map .dat))
  | [.scr l] => .ok (.node .lst (l.map .dat))
  | [.tup l] => .ok (.node .lst (l.map .dat))
  | _ => .bad
def dTuple : List D → Rs O
  | [.lst l] => .ok (.dat (.tup l))
  | [.scr l] => .ok (.dat (.tup l))
  | [.tup l] => .ok (.dat (.tup l))
  | _ => .bad
def lOf : D → Option (List D)
  | .lst l => some l
  | .scr l => some l
  | _ => none
def dSum : List D → Rs O
  | [d] => match (lOf d).bind intsOf with
    | some ns => .ok (.dat (.int ns.sum))
    | none => .bad
  | _ => .bad
def dAll : List D → Rs O
  | [d] => match (lOf d).bind blsOf with
    | some bs => .ok (.dat (.bl (bs.all id)))
    | none => .bad
  | _ => .bad
def dAny : List D → Rs O
  | [d] => match (lOf d).bind blsOf with
    | some bs => .ok (.dat (.bl (bs.any id)))
    | none => .bad
  | _ => .bad
def maxL : List Int → Int
  | [] => 0
  | [a] => a
  | a :: l => if maxL l ≤ a then a else maxL l
def minL : List Int → Int
  | [] => 0
  | [a] => a
  | a :: l => if a ≤ minL l then a else minL l
theorem maxL_in : ∀ {l : List Int}, l ≠ [] → maxL l ∈ l ∧ ∀ y ∈ l, y ≤ maxL l
  | [], h => absurd rfl h
  | [a], _ => ⟨by simp [maxL], fun y h => by simp at h; subst h; exact Int.le_refl _⟩
  | a :: b :: l, _ => by
    obtain ⟨h1, h2⟩ := maxL_in (l := b :: l) (by simp)
    have e : maxL (a :: b :: l) = if maxL (b :: l) ≤ a then a else maxL (b :: l) := rfl
    rw [e]
    by_cases z : maxL (b :: l) ≤ a
    · rw [if_pos z]
      refine ⟨by simp, fun y h => ?_⟩
      rcases List.mem_cons.mp h with rfl | h
      · exact Int.le_refl _
      · have := h2 y h; omega
    · rw [if_neg z]
      refine ⟨List.mem_cons_of_mem _ h1, fun y h => ?_⟩
      rcases List.mem_cons.mp h with rfl | h
      · omega
      · exact h2 y h
theorem minL_in : ∀ {l : List Int}, l ≠ [] → minL l ∈ l ∧ ∀ y ∈ l, minL l ≤ y
  | [], h => absurd rfl h
  | [a], _ => ⟨by simp [minL], fun y h => by simp at h; subst h; exact Int.le_refl _⟩
  | a :: b :: l, _ => by
    obtain ⟨h1, h2⟩ := minL_in (l := b :: l) (by simp)
    have e : minL (a :: b :: l) = if a ≤ minL (b :: l) then a else minL (b :: l) := rfl
    rw [e]
    by_cases z : a ≤ minL (b :: l)
    · rw [if_pos z]
      refine ⟨by simp, fun y h => ?_⟩
      rcases List.mem_cons.mp h with rfl | h
      · exact Int.le_refl _
      · have := h2 y h; omega
    · rw [if_neg z]
      refine ⟨List.mem_cons_of_mem _ h1, fun y h => ?_⟩
      rcases List.mem_cons.mp h with rfl | h
      · omega
      · exact h2 y h
def dMax : List D → Rs O
  | [.int a, .int b] => .ok (.dat (.int (if b > a then b else a)))
  | [d] => match (lOf d).bind intsOf with
    | some (n :: ns) => .ok (.dat (.int (maxL (n :: ns))))
    | _ => .bad
  | _ => .bad
def dMin : List D → Rs O
  | [.int a, .int b] => .ok (.dat (.int (if b < a then b else a)))
  | [d] => match (lOf d).bind intsOf with
    | some (n :: ns) => .ok (.dat (.int (minL (n :: ns))))
    | _ => .bad
  | _ => .bad
def dAbs : List D → Rs O
  | [.int a] => .ok (.dat (.int (if a < 0 then -a else a)))
  | _ => .bad
section
variable {X : Cx} {K : PySem.W.Frag}
theorem RdV.listOf {G H : Hp} {v : V} {d : D} {l : List D} (x : Ex G H) (h : RdV K G H v d) (e : lOf d = some l) : ∃ a xs, v = .ref a ∧ SqL K H a xs ∧ IsDs K G xs l := by
  cases d with
  | lst l' => cases e; exact h.seql x (.inl rfl)
  | scr l' => cases e; exact h.seql x (.inr rfl)
  | _ => cases e
theorem RdV.intsOf {G H : Hp} {v : V} {d : D} {ns : List Int} (x : Ex G H) (h : RdV K G H v d) (e : (lOf d).bind FL.intsOf = some ns) : ∃ a, v = .ref a ∧ SqL K H a (ns.map V.int) := by
  cases z : lOf d with
  | none => rw [z] at e; cases e
  | some l =>
    rw [z] at e
    obtain ⟨a, xs, e1, h1, h2⟩ := h.listOf x z
    have := intsOf_is h2 e
    subst this
    exact ⟨a, e1, h1⟩
theorem RdV.blsOf {G H : Hp} {v : V} {d : D} {ns : List Bool} (x : Ex G H) (h : RdV K G H v d) (e : (lOf d).bind FL.blsOf = some ns) : ∃ a, v = .ref a ∧ SqL K H a (ns.map V.bl) := by
  cases z : lOf d with
  | none => rw [z] at e; cases e
  | some l =>
    rw [z] at e
    obtain ⟨a, xs, e1, h1, h2⟩ := h.listOf x z
    have := blsOf_is h2 e
    subst this
    exact ⟨a, e1, h1⟩
def rLenAll (K : PySem.W.Frag) : List V → Hp → VK → Prop := fun xs H Q => (∃ p ys, xs = [.ref p] ∧ (SqL K H p ys ∨ SqT K H p ys) ∧ Q (.int ys.length) H) ∨ ∃ z, xs = [.str z] ∧ z.length ≤ sizeLine ∧ Q (.int z.length) H
theorem call_lenAll : CallR X (.builtin "len") (rLenAll X.K) := call_len_seq.or call_len_str
theorem len_F : CallF K (rLenAll K) dLen := fun {mg W G H σ Q vs ds} ex h q => by
  cases h with
  | nil => exact q.elim
  | cons h t =>
    rename_i v d vs ds
    cases t with
    | cons _ _ => cases d <;> exact q.elim
    | nil =>
      cases d with
      | lst l => obtain ⟨a, xs, rfl, h1, h2⟩ := h.seql ex (.inl rfl); exact .inl ⟨a, xs, rfl, .inl h1, by rw [h2.length]; exact Post.dt q ex (.int _)⟩
      | scr l => obtain ⟨a, xs, rfl, h1, h2⟩ := h.seql ex (.inr rfl); exact .inl ⟨a, xs, rfl, .inl h1, by rw [h2.length]; exact Post.dt q ex (.int _)⟩
      | tup l => obtain ⟨a, xs, rfl, h1, _, h2⟩ := h.tup ex; exact .inl ⟨a, xs, rfl, .inr h1, by rw [h2.length]; exact Post.dt q ex (.int _)⟩
      | str s =>
        simp only [dLen] at q
        by_cases z : s.length ≤ sizeLine
        · rw [if_pos z] at q; exact .inr ⟨s, by rw [h.str], z, Post.dt q ex (.int _)⟩
        · rw [if_neg z] at q; exact q.elim
      | _ => exact q.elim
def rListAll (K : PySem.W.Frag) : List V → Hp → VK → Prop := fun xs H Q => ∃ p ys, xs = [.ref p] ∧ (SqL K H p ys ∨ SqT K H p ys) ∧ ∀ l, H l = none → Q (.ref l) (upd H l (.lst ys))
theorem call_listAll : CallR X (.type "list") (rListAll X.K) := call_list_of
theorem list_F : CallF K (rListAll K) dList := fun {mg W G H σ Q vs ds} ex h q => by
  cases h with
  | nil => exact q.elim
  | cons h t =>
    rename_i v d vs ds
    cases t with
    | cons _ _ => cases d <;> exact q.elim
    | nil =>
      cases d with
      | lst l => obtain ⟨a, xs, rfl, h1, h2⟩ := h.seql ex (.inl rfl); exact ⟨a, xs, rfl, .inl h1, fun l n => Post.nl q ex h2 n⟩
      | scr l => obtain ⟨a, xs, rfl, h1, h2⟩ := h.seql ex (.inr rfl); exact ⟨a, xs, rfl, .inl h1, fun l n => Post.nl q ex h2 n⟩
      | tup l => obtain ⟨a, xs, rfl, h1, _, h2⟩ := h.tup ex; exact ⟨a, xs, rfl, .inr h1, fun l n => Post.nl q ex h2 n⟩
      | _ => exact q.elim
def rTupleAll (K : PySem.W.Frag) : List V → Hp → VK → Prop := fun xs H Q => ∃ p ys, xs = [.ref p] ∧ ((SqL K H p ys ∧ ∀ l, H l = none → Q (.ref l) (upd H l (.tup ys))) ∨ (SqT K H p ys ∧ Q (.ref p) H))
theorem call_tupleAll : CallR X (.type "tuple") (rTupleAll X.K) := call_tuple_of
theorem tuple_F : CallF K (rTupleAll K) dTuple := fun {mg W G H σ Q vs ds} ex h q => by
  cases h with
  | nil => exact q.elim
  | cons h t =>
    rename_i v d vs ds
    cases t with
    | cons _ _ => cases d <;> exact q.elim
    | nil =>
      cases d with
      | lst l => obtain ⟨a, xs, rfl, h1, h2⟩ := h.seql ex (.inl rfl); exact ⟨a, xs, rfl, .inl ⟨h1, fun l n => Post.nt q ex h2 n⟩⟩
      | scr l => obtain ⟨a, xs, rfl, h1, h2⟩ := h.seql ex (.inr rfl); exact ⟨a, xs, rfl, .inl ⟨h1, fun l n => Post.nt q ex h2 n⟩⟩
      | tup l => obtain ⟨a, xs, rfl, h1, h1', h2⟩ := h.tup ex; exact ⟨a, xs, rfl, .inr ⟨h1, Post.dt q ex (.tup h1' h2)⟩⟩
      | _ => exact q.elim
theorem sum_F : CallF K (rSum K) dSum := fun {mg W G H σ Q vs ds} ex h q => by
  cases h with
  | nil => exact q.elim
  | cons h t =>
    rename_i v d vs ds
    cases t with
    | cons _ _ => exact q.elim
    | nil =>
      simp only [dSum] at q
      cases z : (lOf d).bind FL.intsOf with
      | none => rw [z] at q; exact q.elim
      | some ns =>
        rw [z] at q
        obtain ⟨a, rfl, h1⟩ := h.intsOf ex z
        exact ⟨a, ns, rfl, h1, Post.dt q ex (.int _)⟩
theorem all_F : CallF K (rAll K) dAll := fun {mg W G H σ Q vs ds} ex h q => by
  cases h with
  | nil => exact q.elim
  | cons h t =>
    rename_i v d vs ds
    cases t with
    | cons _ _ => exact q.elim
    | nil =>
      simp only [dAll] at q
      cases z : (lOf d).bind FL.blsOf with
      | none => rw [z] at q; exact q.elim
      | some ns =>
        rw [z] at q
        obtain ⟨a, rfl, h1⟩ := h.blsOf ex z
        exact ⟨a, ns, rfl, h1, Post.dt q ex (.bl _)⟩
theorem any_F : CallF K (rAny K) dAny := fun {mg W G H σ Q vs ds} ex h q => by
  cases h with
  | nil => exact q.elim
  | cons h t =>
    rename_i v d vs ds
    cases t with
    | cons _ _ => exact q.elim
    | nil =>
      simp only [dAny] at q
      cases z : (lOf d).bind FL.blsOf with
      | none => rw [z] at q; exact q.elim
      | some ns =>
        rw [z] at q
        obtain ⟨a, rfl, h1⟩ := h.blsOf ex z
        exact ⟨a, ns, rfl, h1, Post.dt q ex (.bl _)⟩
def rMaxAll (K : PySem.W.Frag) : List V → Hp → VK → Prop := fun xs H Q => (∃ i j, xs = [.int i, .int j] ∧ Q (.int (if j > i then j else i)) H) ∨ rMax K xs H Q
theorem call_maxAll (hc : X.calm = true) : CallR X (.builtin "max") (rMaxAll X.K) := (call_max2 hc).or (cr_max hc)
def rMinAll (K : PySem.W.Frag) : List V → Hp → VK → Prop := fun xs H Q => (∃ i j, xs = [.int i, .int j] ∧ Q (.int (if j < i then j else i)) H) ∨ rMin K xs H Q
theorem call_minAll (hc : X.calm = true) : CallR X (.builtin "min") (rMinAll X.K) := (call_min2 hc).or (cr_min hc)
theorem max_F : CallF K (rMaxAll K) dMax := fun {mg W G H σ Q vs ds} ex h q => by
  cases h with
  | nil => exact q.elim
  | cons h t =>
    rename_i v d vs ds
    cases t with
    | cons h2 t =>
      rename_i v2 d2 vs ds
      cases t with
      | cons _ _ => cases d <;> cases d2 <;> exact q.elim
      | nil =>
        cases d with
        | int i => cases d2 with
          | int j => exact .inl ⟨i, j, by rw [h.int, h2.int], Post.dt q ex (.int _)⟩
          | _ => exact q.elim
        | _ => exact q.elim
    | nil =>
      have q' : Post K mg W (RO K) ((match (lOf d).bind FL.intsOf with
        | some (n :: ns) => Rs.ok (.dat (.int (maxL (n :: ns))))
        | _ => .bad : Rs O).bnd okT) σ G H Q := by cases d <;> exact q
      cases z : (lOf d).bind FL.intsOf with
      | none => rw [z] at q'; exact q'.elim
      | some ns =>
        rw [z] at q'
        cases ns with
        | nil => exact q'.elim
        | cons n ns =>
          obtain ⟨a, rfl, h1⟩ := h.intsOf ex z
          refine .inr ⟨a, n :: ns, rfl, h1, by simp, fun m hm hle => ?_⟩
          obtain ⟨k1, k2⟩ := maxL_in (l := n :: ns) (by simp)
          have e : m = maxL (n :: ns) := by have := k2 m hm; have := hle _ k1; omega
          subst e
          exact Post.dt q' ex (.int _)
theorem min_F : CallF K (rMinAll K) dMin := fun {mg W G H σ Q vs ds} ex h q => by
  cases h with
  | nil => exact q.elim
  | cons h t =>
    rename_i v d vs ds
    cases t with
    | cons h2 t =>
      rename_i v2 d2 vs ds
      cases t with
      | cons _ _ => cases d <;> cases d2 <;> exact q.elim
      | nil =>
        cases d with
        | int i => cases d2 with
          | int j => exact .inl ⟨i, j, by rw [h.int, h2.int], Post.dt q ex (.int _)⟩
          | _ => exact q.elim
        | _ => exact q.elim
    | nil =>
      have q' : Post K mg W (RO K) ((match (lOf d).bind FL.intsOf with
        | some (n :: ns) => Rs.ok (.dat (.int (minL (n :: ns))))
        | _ => .bad : Rs O).bnd okT) σ G H Q := by cases d <;> exact q
      cases z : (lOf d).bind FL.intsOf with
      | none => rw [z] at q'; exact q'.elim
      | some ns =>
        rw [z] at q'
        cases ns with
        | nil => exact q'.elim
        | cons n ns =>
          obtain ⟨a, rfl, h1⟩ := h.intsOf ex z
          refine .inr ⟨a, n :: ns, rfl, h1, by simp, fun m hm hle => ?_⟩
          obtain ⟨k1, k2⟩ := minL_in (l := n :: ns) (by simp)
          have e : m = minL (n :: ns) := by have := k2 m hm; have := hle _ k1; omega
          subst e
          exact Post.dt q' ex (.int _)
def rAbsI : List V → Hp → VK → Prop := fun xs H Q => ∃ i, xs = [.int i] ∧ Q (.int (if i < 0 then -i else i)) H
theorem call_absI : CallR X (.builtin "abs") rAbsI := call_abs
theorem abs_F : CallF K rAbsI dAbs := fun {mg W G H σ Q vs ds} ex h q => by
  cases h with
  | nil => exact q.elim
  | cons h t =>
    rename_i v d vs ds
    cases t with
    | cons _ _ => cases d <;> exact q.elim
    | nil => cases d with
      | int i => exact ⟨i, by rw [h.int], Post.dt q ex (.int _)⟩
      | _ => exact q.elim
end
def tyN : D → Option String
  | .non => some "NoneType"
  | .bl _ => some "bool"
  | .int _ => some "int"
  | .str _ => some "str"
  | .tup _ => some "tuple"
  | .lst _ => some "list"
  | .scr _ => some "list"
  | .obj _ _ => none
  | .exn _ _ _ _ => none
def dIsT (n : String) (d : D) : Rs O := match (tyN d).bind fun t => kitB t n with
  | some b => .ok (.dat (.bl b))
  | none => .bad
section
variable {X : Cx} {K : PySem.W.Frag}
theorem RdV.ty {G H : Hp} {v : V} {d : D} {t : String} (x : Ex G H) (h : RdV K G H v d) (e : tyN d = some t) : TyX K H v (.type t) := by
  cases d with
  | non => cases e; rw [h.non]; exact .base .non
  | bl b => cases e; rw [h.bl]; exact .base (.bl b)
  | int b => cases e; rw [h.int]; exact .base (.int b)
  | str b => cases e; rw [h.str]; exact .base (.str b)
  | tup l =>
    cases e
    obtain ⟨a, xs, rfl, h1, _⟩ := h.tup x
    rcases h1 with (h1 | ⟨o, h1⟩) | ⟨o, its, n, h1, h2, _⟩
    · exact .base (.tup h1)
    · exact .fTuple h1
    · exact .kTuple h1 h2
  | lst l => cases e; obtain ⟨a, xs, rfl, h1, _⟩ := h.lst x; exact .base (.lst h1)
  | scr l =>
    cases e
    obtain ⟨a, xs, rfl, h1, _⟩ := h.scr x
    rcases h1 with (h1 | ⟨o, h1⟩) | ⟨o, its, n, h1, h2, _⟩
    · exact .base (.lst h1)
    · exact .base (.frz h1)
    · exact .kList h1 h2
  | obj _ _ => cases e
  | exn _ _ _ _ => cases e
theorem ee_isT {W : WX} {e : Expr} {fa : FE} {nx nt : Str} {T : String} {p pt pos : Pos} (ha : EE X W e fa) (hg : Gl X nx) (hm : X.mg nx = none) (hv : bootBuiltins nx = some (.builtin "isinstance"))
    (hgt : Gl X nt) (hmt : X.mg nt = none) (hvt : bootBuiltins nt = some (.type T)) (hn : nx ≠ "__name__" := by decide) (hdb : (nx == ("__debug__" : Str)) = false := by decide) (hnt : nt ≠ "__name__" := by decide) (hdbt : (nt == ("__debug__" : Str)) = false := by decide)
    (hs1 : starEach [e, .Name nt pt] X.env = (false, eval e X.env) :: starEach [.Name nt pt] X.env := by rfl) (hs2 : starEach [.Name nt pt] X.env = (false, eval (.Name nt pt) X.env) :: starEach [] X.env := by rfl)
    (hpl : (backTo pos (starEach [.Name nt pt] X.env)).any (·.1) = false := by rfl) :
    EE X W (.Call (.Name nx p) [e, .Name nt pt] [] pos) (eUn (dIsT T) fa) :=
  PEimp (pe_callB call_isi hg hm hv (pa_cons (to_rd ha) (pa_cons (pe_bltn (v := .ty T) hgt hmt hvt rfl hnt hdbt) pa_nil hs2) hs1) hn hdb hs1 hpl) fun σ H Q ⟨ρ, G, fp, c, q⟩ =>
    seqE (R := RR X.K) c q fun d v G1 H1 f _ g q1 => by
      unfold dIsT at q1
      cases z : tyN d with
      | none => rw [z] at q1; exact q1.elim
      | some t =>
        rw [z] at q1
        simp only [Option.bind_some] at q1
        cases z2 : kitB t T with
        | none => rw [z2] at q1; exact q1.elim
        | some b =>
          rw [z2] at q1
          exact ⟨v, .ty T, .type t, .type T, b, rfl, .ty T, g.rep.2.ty g.x z, kit_ty z2, Post.dt q1 g.x (.bl _)⟩
end
end FL
namespace FL
open PySem L2

def O.put : O → List Nat → O → O
  | _, [], o' => o'
  | .node t l, k :: p, o' => match l[k]? with
    | some o => .node t (l.set k (o.put p o'))
    | none => .node t l
  | .pck l, k :: p, o' => match l[k]? with
    | some o => .pck (l.set k (o.put p o'))
    | none => .pck l
  | .dat d, _ :: _, _ => .dat d
def getP (ρ : Env) (i : Nat) (p : List Nat) : Option O := match ρ[i]? with
  | some (some o) => o.at p
  | _ => none
def putP (ρ : Env) (i : Nat) (p : List Nat) (o' : O) : Env := match ρ[i]? with
  | some (some o) => ρ.set i (some (o.put p o'))
  | _ => ρ
@[simp] theorem O.put_nil (o o' : O) : o.put [] o' = o' := by cases o <;> rfl
@[simp] theorem O.at_nil (o : O) : o.at [] = some o := by cases o <;> rfl
theorem O.put_cons (t : Tag) (l : List O) (k : Nat) (p : List Nat) (o' : O) : (O.node t l).put (k :: p) o' = match l[k]? with
    | some o => .node t (l.set k (o.put p o'))
    | none => .node t l := rfl
theorem O.at_cons (t : Tag) (l : List O) (k : Nat) (p : List Nat) : (O.node t l).at (k :: p) = match l[k]? with
    | some o => o.at p
    | none => none := rfl
theorem O.putk_cons (l : List O) (k : Nat) (p : List Nat) (o' : O) : (O.pck l).put (k :: p) o' = match l[k]? with
    | some o => .pck (l.set k (o.put p o'))
    | none => .pck l := rfl
theorem O.atk_cons (l : List O) (k : Nat) (p : List Nat) : (O.pck l).at (k :: p) = match l[k]? with
    | some o => o.at p
    | none => none := rfl
theorem O.at_dat (d : D) (k : Nat) (p : List Nat) : (O.dat d).at (k :: p) = none := rfl
section
variable {K : PySem.W.Frag} {G H : Hp}
theorem Reps.lens : ∀ {vs : List V} {os : List O} {f : List Addr} {k : Nat} {o : O}, Reps K G H vs os f → os[k]? = some o →
    ∃ v pre f1 post, vs[k]? = some v ∧ f = pre ++ f1 ++ post ∧ Rep K G H v o f1 ∧ ∀ {G' H' : Hp} {o' : O} {f1' : List Addr}, Ex G G' → (∀ a, a ∈ pre ∨ a ∈ post → ∀ u, H a = some u → H' a = some u) →
      Rep K G' H' v o' f1' → Reps K G' H' vs (os.set k o') (pre ++ f1' ++ post)
  | _, _, _, _, _, .nil, e => by simp at e
  | _, _, _, 0, _, .cons (v := v) (f := f) (fs := fs) h t, e => by
    simp at e; subst e
    refine ⟨v, [], f, fs, rfl, by simp, h, fun eg k r => ?_⟩
    have z := Reps.cons r (t.mono eg fun a ha u hu => k a (.inr ha) u hu)
    simpa using z
  | _, _, _, k + 1, o, .cons (v := v) (f := f) (fs := fs) h t, e => by
    obtain ⟨v1, pre, f1, post, g1, g2, g3, g4⟩ := Reps.lens (k := k) (o := o) t (by simpa using e)
    refine ⟨v1, f ++ pre, f1, post, by simpa using g1, by rw [g2]; simp [List.append_assoc], g3, fun eg kp r => ?_⟩
    have z := Reps.cons (h.mono eg fun a ha u hu => kp a (.inl (List.mem_append_left _ ha)) u hu) (g4 eg (fun a ha u hu => kp a (ha.imp (fun x => List.mem_append_right _ x) id) u hu) r)
    simpa [List.append_assoc] using z
theorem Rep.lens (x : Ex G H) : ∀ {p : List Nat} {v w : V} {o o1 : O} {f : List Addr}, Rep K G H v o f → At H v p w → o.at p = some o1 →
    ∃ pre f1 post, f = pre ++ f1 ++ post ∧ Rep K G H w o1 f1 ∧ ∀ {G' H' : Hp} {o' : O} {f1' : List Addr}, Ex G G' → (∀ a, a ∈ pre ∨ a ∈ post → ∀ u, H a = some u → H' a = some u) →
      Rep K G' H' w o' f1' → Rep K G' H' v (o.put p o') (pre ++ f1' ++ post)
  | [], v, w, o, o1, f, r, h, e => by
    obtain rfl : v = w := h
    rw [O.at_nil] at e; cases e
    exact ⟨[], f, [], by simp, r, fun eg k r' => by simpa using r'⟩
  | k :: p, v, w, o, o1, f, r, h, e => by
    cases r with
    | dat _ => rw [O.at_dat] at e; cases e
    | node h1 h2 h3 =>
      rename_i a ho t xs l fl
      obtain ⟨a', ho', v', e1, e2, e3, e4⟩ := h
      cases e1
      rw [h1] at e2; cases e2
      rw [h2.kids] at e3
      cases z : l[k]? with
      | none => rw [O.at_cons, z] at e; cases e
      | some oc =>
        rw [O.at_cons, z] at e
        obtain ⟨v1, pre, f1, post, g1, g2, g3, g4⟩ := h3.lens z
        rw [e3] at g1; cases g1
        obtain ⟨pre2, f2, post2, q1, q2, q3⟩ := Rep.lens x g3 e4 e
        refine ⟨a :: (pre ++ pre2), f2, post2 ++ post, by rw [g2, q1]; simp [List.append_assoc], q2, fun {G' H' o' f1'} eg kp r' => ?_⟩
        have r1 := q3 eg (fun b hb u hu => kp b (hb.imp (fun x => List.mem_cons_of_mem _ (List.mem_append_right _ x)) fun x => List.mem_append_left _ x) u hu) r'
        have r2 := g4 eg (fun b hb u hu => kp b (hb.imp (fun x => List.mem_cons_of_mem _ (List.mem_append_left _ x)) fun x => List.mem_append_right _ x) u hu) r1
        have r3 := Rep.node (kp a (.inl List.mem_cons_self) _ h1) h2 r2
        rw [O.put_cons, z]
        simpa [List.append_assoc] using r3
    | @pck a xs l _ h1 h3 =>
      obtain ⟨a', ho', v', e1, e2, e3, e4⟩ := h
      cases e1
      rw [x _ _ h1] at e2; cases e2
      have e3 : xs[k]? = some v' := e3
      cases z : l[k]? with
      | none => rw [O.atk_cons, z] at e; cases e
      | some oc =>
        rw [O.atk_cons, z] at e
        obtain ⟨v1, pre, f1, post, g1, g2, g3, g4⟩ := h3.lens z
        rw [e3] at g1; cases g1
        obtain ⟨pre2, f2, post2, q1, q2, q3⟩ := Rep.lens x g3 e4 e
        refine ⟨pre ++ pre2, f2, post2 ++ post, by rw [g2, q1]; simp [List.append_assoc], q2, fun {G' H' o' f1'} eg kp r' => ?_⟩
        have r1 := q3 eg (fun b hb u hu => kp b (hb.imp (fun x => List.mem_append_right _ x) fun x => List.mem_append_left _ x) u hu) r'
        have r2 := g4 eg (fun b hb u hu => kp b (hb.imp (fun x => List.mem_append_left _ x) fun x => List.mem_append_right _ x) u hu) r1
        have r3 := Rep.pck (eg _ _ h1) r2
        rw [O.putk_cons, z]
        simpa [List.append_assoc] using r3
theorem RepE.lens : ∀ {σ : L2.St} {ρ : Env} {f : List Addr} {i : Nat} {o : O}, RepE K G H σ ρ f → ρ[i]? = some (some o) →
    ∃ v pre f1 post, σ[i]? = some (some v) ∧ f = pre ++ f1 ++ post ∧ Rep K G H v o f1 ∧ ∀ {G' H' : Hp} {o' : O} {f1' : List Addr}, Ex G G' → (∀ a, a ∈ pre ∨ a ∈ post → ∀ u, H a = some u → H' a = some u) →
      Rep K G' H' v o' f1' → RepE K G' H' σ (ρ.set i (some o')) (pre ++ f1' ++ post)
  | _, _, _, _, _, .nil, e => by simp at e
  | _, _, _, 0, _, .no t, e => by simp at e
  | _, _, _, 0, _, .yes (v := v) (f := f) (fs := fs) h t, e => by
    simp at e; subst e
    refine ⟨v, [], f, fs, rfl, by simp, h, fun eg k r => ?_⟩
    have z := RepE.yes r (t.mono eg fun a ha u hu => k a (.inr ha) u hu)
    simpa using z
  | _, _, _, i + 1, o, .no t, e => by
    obtain ⟨v, pre, f1, post, g1, g2, g3, g4⟩ := RepE.lens (i := i) (o := o) t (by simpa using e)
    exact ⟨v, pre, f1, post, by simpa using g1, g2, g3, fun eg kp r => by simpa using RepE.no (g4 eg kp r)⟩
  | _, _, _, i + 1, o, .yes (f := f) h t, e => by
    obtain ⟨v, pre, f1, post, g1, g2, g3, g4⟩ := RepE.lens (i := i) (o := o) t (by simpa using e)
    refine ⟨v, f ++ pre, f1, post, by simpa using g1, by rw [g2]; simp [List.append_assoc], g3, fun eg kp r => ?_⟩
    have z := RepE.yes (h.mono eg fun a ha u hu => kp a (.inl (List.mem_append_left _ ha)) u hu) (g4 eg (fun a ha u hu => kp a (ha.imp (fun x => List.mem_append_right _ x) id) u hu) r)
    simpa [List.append_assoc] using z
theorem RepE.lensP (x : Ex G H) {σ : L2.St} {ρ : Env} {f : List Addr} {i : Nat} {p : List Nat} {v0 w : V} {o1 : O} (r : RepE K G H σ ρ f) (h0 : σ[i]? = some (some v0)) (ha : At H v0 p w) (e : getP ρ i p = some o1) :
    ∃ pre f1 post, f = pre ++ f1 ++ post ∧ Rep K G H w o1 f1 ∧ ∀ {G' H' : Hp} {o' : O} {f1' : List Addr}, Ex G G' → (∀ a, a ∈ pre ∨ a ∈ post → ∀ u, H a = some u → H' a = some u) →
      Rep K G' H' w o' f1' → RepE K G' H' σ (putP ρ i p o') (pre ++ f1' ++ post) := by
  unfold getP at e
  cases z : ρ[i]? with
  | none => rw [z] at e; cases e
  | some oo =>
    cases oo with
    | none => rw [z] at e; cases e
    | some o =>
      rw [z] at e
      have e : o.at p = some o1 := e
      obtain ⟨v, pre, f1, post, g1, g2, g3, g4⟩ := r.lens z
      rw [h0] at g1; cases g1
      obtain ⟨pre2, f2, post2, q1, q2, q3⟩ := g3.lens x ha e
      refine ⟨pre ++ pre2, f2, post2 ++ post, by rw [g2, q1]; simp [List.append_assoc], q2, fun {G' H' o' f1'} eg kp r' => ?_⟩
      have r1 := q3 eg (fun b hb u hu => kp b (hb.imp (fun x => List.mem_append_right _ x) fun x => List.mem_append_left _ x) u hu) r'
      have r2 := g4 eg (fun b hb u hu => kp b (hb.imp (fun x => List.mem_append_left _ x) fun x => List.mem_append_right _ x) u hu) r1
      have ep : putP ρ i p o' = ρ.set i (some (o.put p o')) := by
        unfold putP
        rw [z]
      rw [ep]
      simpa [List.append_assoc] using r2
end

structure Stp (G H : Hp) (fp : List Addr) (G' H' : Hp) (fp' : List Addr) : Prop where
  eg : Ex G G'
  fr : ∀ a u, H a = some u → a ∉ fp → H' a = some u
  lv : ∀ a u, H a = some u → ∃ u', H' a = some u'
  sb : ∀ a ∈ fp', a ∈ fp ∨ H a = none
  og : ∀ a u, H a = some u → a ∉ fp → NotT u → G a = none → G' a = none
section
variable {K : PySem.W.Frag} {G H G1 H1 G' H' : Hp} {fp fp1 fp' f : List Addr} {σ σ' : L2.St} {ρ ρ' : Env}
theorem Stp.refl : Stp G H fp G H fp := ⟨Ex.refl _, fun _ _ h _ => h, fun _ _ h => ⟨_, h⟩, fun _ h => .inl h, fun _ _ _ _ _ h => h⟩
theorem Stp.nofp (s : Stp G H fp G1 H1 fp1) {a : Addr} {u : HO} (h : H a = some u) (n : a ∉ fp) : a ∉ fp1 := fun z => by
  rcases s.sb a z with x | x
  · exact n x
  · rw [h] at x; cases x
theorem Stp.trans (s : Stp G H fp G1 H1 fp1) (t : Stp G1 H1 fp1 G' H' fp') : Stp G H fp G' H' fp' := by
  refine ⟨s.eg.trans t.eg, fun a u h n => t.fr a u (s.fr a u h n) (s.nofp h n), fun a u h => ?_, fun a ha => ?_, fun a u h n k g => t.og a u (s.fr a u h n) (s.nofp h n) k (s.og a u h n k g)⟩
  · obtain ⟨u1, h1⟩ := s.lv a u h
    exact t.lv a u1 h1
  · rcases t.sb a ha with x | x
    · exact s.sb a x
    · refine .inr ?_
      cases z : H a with
      | none => rfl
      | some u =>
        obtain ⟨u1, h1⟩ := s.lv a u z
        rw [x] at h1; cases h1
theorem Stp.left (s : Stp G H fp G' H' fp') (f : List Addr) : Stp G H (f ++ fp) G' H' (f ++ fp') :=
  ⟨s.eg, fun a u h n => s.fr a u h fun z => n (List.mem_append_right _ z), s.lv, fun a ha => by
    rcases List.mem_append.mp ha with x | x
    · exact .inl (List.mem_append_left _ x)
    · exact (s.sb a x).imp (fun y => List.mem_append_right _ y) id, fun a u h n => s.og a u h fun z => n (List.mem_append_right _ z)⟩
theorem Stp.sub (s : Stp G H fp G' H' fp') (h : ∀ a ∈ f, a ∈ fp') : Stp G H fp G' H' f := ⟨s.eg, s.fr, s.lv, fun a ha => s.sb a (h a ha), s.og⟩
theorem Stp.sup (s : Stp G H fp G' H' fp') (h : ∀ a ∈ fp, a ∈ f) : Stp G H f G' H' fp' :=
  ⟨s.eg, fun a u e n => s.fr a u e fun z => n (h a z), s.lv, fun a ha => (s.sb a ha).imp (h a) id, fun a u e n => s.og a u e fun z => n (h a z)⟩
theorem Stp.of (g : Gr G H G') (e : Ex H H') : Stp G H fp G' H' fp := ⟨g.ex, fun a u h _ => e a u h, fun a u h => ⟨u, e a u h⟩, fun _ h => .inl h, fun a u h _ k n => g.old a u h k n⟩
theorem Stp.free (s : Stp G H fp G' H' fp') {a : Addr} (h : H' a = none) : H a = none := by
  cases z : H a with
  | none => rfl
  | some u =>
    obtain ⟨u1, h1⟩ := s.lv a u z
    rw [h] at h1; cases h1
theorem Got.stp {υ α : Type} {R : RT υ α} {a : α} {v : υ} (g : Got G H σ R a v G' H' f) : Stp G H fp G' H' (f ++ fp) :=
  ⟨g.gr.ex, fun a u h _ => g.eh a u h, fun a u h => ⟨u, g.eh a u h⟩, fun a ha => by
    rcases List.mem_append.mp ha with x | x
    · exact .inr (g.fr a x).2
    · exact .inl x, fun a u h _ k n => g.gr.old a u h k n⟩
end

def Keep (kp : List Nat) (σ σ' : L2.St) : Prop := σ'.length = σ.length ∧ ∀ i ∈ kp, σ'[i]? = σ[i]?
theorem Keep.refl {kp : List Nat} {σ : L2.St} : Keep kp σ σ := ⟨rfl, fun _ _ => rfl⟩
theorem Keep.trans {kp : List Nat} {σ σ1 σ2 : L2.St} (a : Keep kp σ σ1) (b : Keep kp σ1 σ2) : Keep kp σ σ2 := ⟨b.1.trans a.1, fun i h => (b.2 i h).trans (a.2 i h)⟩
theorem Keep.set {kp : List Nat} {σ : L2.St} {i : Nat} {x : Option V} (h : i ∉ kp) : Keep kp σ (σ.set i x) := ⟨List.length_set, fun j hj => by
  rw [List.getElem?_set_ne (fun e => h (by rw [e]; exact hj))]⟩

inductive RX where
  | ok (o : Opd) (ρ : Env)
  | exc (c : Str) (fs : List (Str × D)) (ρ : Env)
  | bad
abbrev FX := Env → RX
structure GotX (K : PySem.W.Frag) (G H : Hp) (fp : List Addr) (σ : L2.St) (o : Opd) (v : V) (G' H' : Hp) (f : List Addr) (ρ' : Env) (fp' : List Addr) : Prop where
  stp : Stp G H fp G' H' (f ++ fp')
  conf : Conf K G' H' σ ρ' fp'
  rep : RO K G' H' σ v o f
  nd : (f ++ fp').Nodup
  fr : ∀ b ∈ f, G' b = none
def PostX (K : PySem.W.Frag) (mg : Str → Option Value) (W : WX) (r : RX) (σ : L2.St) (G H : Hp) (fp : List Addr) (Q : V → Hp → Prop) : Prop := match r with
  | .ok o ρ' => ∀ v G' H' f fp', GotX K G H fp σ o v G' H' f ρ' fp' → Q v H'
  | .exc c fs ρ' => ∀ cls d G' H' fp', mg c = some cls → Stp G H fp G' H' fp' → Conf K G' H' σ ρ' fp' → ExF K G' H' d fs → W cls d σ H'
  | .bad => False
def tX (K : PySem.W.Frag) (mg : Str → Option Value) (W : WX) (f : FX) : TE := fun σ H Q => ∃ ρ G fp, Conf K G H σ ρ fp ∧ PostX K mg W (f ρ) σ G H fp Q
def lft (f : FE) : FX := fun ρ => match f ρ with
  | .ok o => .ok o ρ
  | .exc c fs => .exc c fs ρ
  | .bad => .bad
section
variable {K : PySem.W.Frag} {mg : Str → Option Value} {W : WX} {G H G1 H1 G' H' : Hp} {fp fp1 fp' f : List Addr} {σ σ' : L2.St} {ρ ρ' : Env} {Q : V → Hp → Prop}
theorem nd_parts {α : Type} {a b : List α} (h : (a ++ b).Nodup) : a.Nodup ∧ b.Nodup ∧ ∀ x ∈ a, x ∉ b := by
  rw [List.nodup_append] at h
  exact ⟨h.1, h.2.1, fun x ha hb => h.2.2 x ha x hb rfl⟩
theorem nd_join {α : Type} {a b : List α} (ha : a.Nodup) (hb : b.Nodup) (h : ∀ x ∈ a, x ∉ b) : (a ++ b).Nodup := by
  rw [List.nodup_append]
  exact ⟨ha, hb, fun x hx y hy e => h x hx (e ▸ hy)⟩
theorem Got.toX {o : Opd} {v : V} (c : Conf K G H σ ρ fp) (g : Got G H σ (RO K) o v G' H' f) : GotX K G H fp σ o v G' H' f ρ fp :=
  ⟨g.stp, g.conf c, g.rep, nd_join g.nd c.nd (fun x hx hy => by
    obtain ⟨u, h, _⟩ := c.rep.live x hy
    rw [(g.fr x hx).2] at h; cases h), fun b hb => (g.fr b hb).1⟩
theorem PostX.step {r : RX} (s : Stp G H fp G1 H1 fp1) (h : PostX K mg W r σ G H fp Q) : PostX K mg W r σ G1 H1 fp1 Q := by
  cases r with
  | ok o ρ' => exact fun v G' H' f fp' g => h v G' H' f fp' ⟨s.trans g.stp, g.conf, g.rep, g.nd, g.fr⟩
  | exc c fs ρ' => exact fun cls d G' H' fp' m t => h cls d G' H' fp' m (s.trans t)
  | bad => exact h
abbrev XX (X : Cx) (W : WX) (e : Expr) (f : FX) : Prop := PE X e (tX X.K X.mg W f)
theorem xx_lft {X : Cx} {e : Expr} {fe : FE} (h : EE X W e fe) : XX X W e (lft fe) := PEimp h fun σ H Q ⟨ρ, G, fp, c, q⟩ => by
  refine ⟨ρ, G, fp, c, ?_⟩
  unfold lft at q
  cases z : fe ρ with
  | ok o =>
    rw [z] at q
    exact fun v G' H' f g => q v G' H' f fp (g.toX c)
  | exc cc fs =>
    rw [z] at q
    exact fun cls d G' H' m gr eh x ef => q cls d G' H' fp m (Stp.of gr eh) (c.grow gr eh x) ef
  | bad => rw [z] at q; exact q
end

inductive Fl where
  | nx | bk | ct
  | rt (o : O)
inductive RS where
  | ok (f : Fl) (ρ : Env)
  | exc (c : Str) (fs : List (Str × D)) (ρ : Env)
  | bad
abbrev FS := Env → RS
def PostS (K : PySem.W.Frag) (mg : Str → Option Value) (W : WX) (kp : List Nat) (r : RS) (D : Ends) (σ : L2.St) (G H : Hp) (fp : List Addr) : Prop := match r with
  | .ok .nx ρ' => ∀ σ' G' H' fp', Stp G H fp G' H' fp' → Conf K G' H' σ' ρ' fp' → Keep kp σ σ' → D.nx σ' H'
  | .ok .bk ρ' => ∀ σ' G' H' fp', Stp G H fp G' H' fp' → Conf K G' H' σ' ρ' fp' → Keep kp σ σ' → D.bk σ' H'
  | .ok .ct ρ' => ∀ σ' G' H' fp', Stp G H fp G' H' fp' → Conf K G' H' σ' ρ' fp' → Keep kp σ σ' → D.ct σ' H'
  | .ok (.rt o) ρ' => ∀ v σ' G' H' f fp', Stp G H fp G' H' (f ++ fp') → Conf K G' H' σ' ρ' fp' → Keep kp σ σ' → Rep K G' H' v o f → (f ++ fp').Nodup → (∀ b ∈ f, G' b = none) → D.rt v H'
  | .exc c fs ρ' => ∀ cls d σ' G' H' fp', mg c = some cls → Stp G H fp G' H' fp' → Conf K G' H' σ' ρ' fp' → Keep kp σ σ' → ExF K G' H' d fs → W cls d σ' H'
  | .bad => False
def tS (K : PySem.W.Frag) (mg : Str → Option Value) (W : WX) (kp : List Nat) (f : FS) : TS := fun D σ H => ∃ ρ G fp, Conf K G H σ ρ fp ∧ PostS K mg W kp (f ρ) D σ G H fp
abbrev SS (X : Cx) (W : WX) (kp : List Nat) (st : Stmt) (f : FS) : Prop := PS X st (tS X.K X.mg W kp f)
abbrev SB (X : Cx) (W : WX) (kp : List Nat) (st : List Stmt) (f : FS) : Prop := PSs X st (tS X.K X.mg W kp f)
theorem PSimp {X : Cx} {e : Stmt} {t t' : TS} (h : PS X e t) (i : ∀ D σ H, t' D σ H → t D σ H) : PS X e t' := ⟨fun pins s σ H D I q => h.run pins s σ H D I (i D σ H q)⟩
theorem PSsimp {X : Cx} {e : List Stmt} {t t' : TS} (h : PSs X e t) (i : ∀ D σ H, t' D σ H → t D σ H) : PSs X e t' := ⟨fun pins s σ H D I q => h.run pins s σ H D I (i D σ H q)⟩
section
variable {K : PySem.W.Frag} {mg : Str → Option Value} {W : WX} {G H G1 H1 G' H' : Hp} {fp fp1 fp' f : List Addr} {σ σ1 σ' : L2.St} {ρ ρ' : Env} {kp : List Nat} {DE : Ends}
theorem PostS.step {r : RS} (s : Stp G H fp G1 H1 fp1) (k : Keep kp σ σ1) (h : PostS K mg W kp r DE σ G H fp) : PostS K mg W kp r DE σ1 G1 H1 fp1 := by
  cases r with
  | ok fl ρ' =>
    cases fl with
    | rt o => exact fun v σ' G' H' f fp' t c q => h v σ' G' H' f fp' (s.trans t) c (k.trans q)
    | _ => exact fun σ' G' H' fp' t c q => h σ' G' H' fp' (s.trans t) c (k.trans q)
  | exc c fs ρ' => exact fun cls d σ' G' H' fp' m t cf q => h cls d σ' G' H' fp' m (s.trans t) cf (k.trans q)
  | bad => exact h
def sNx : FS := fun ρ => .ok .nx ρ
def sBk : FS := fun ρ => .ok .bk ρ
def sCt : FS := fun ρ => .ok .ct ρ
def sRetN : FS := fun ρ => .ok (.rt (.dat .non)) ρ
def RS.thn (r : RS) (g : FS) : RS := match r with
  | .ok .nx ρ => g ρ
  | r => r
@[simp] theorem RS.thn_nx (ρ : Env) (g : FS) : (RS.ok .nx ρ).thn g = g ρ := rfl
@[simp] theorem RS.thn_bk (ρ : Env) (g : FS) : (RS.ok .bk ρ).thn g = .ok .bk ρ := rfl
@[simp] theorem RS.thn_ct (ρ : Env) (g : FS) : (RS.ok .ct ρ).thn g = .ok .ct ρ := rfl
@[simp] theorem RS.thn_rt (o : O) (ρ : Env) (g : FS) : (RS.ok (.rt o) ρ).thn g = .ok (.rt o) ρ := rfl
@[simp] theorem RS.thn_exc (c : Str) (fs : List (Str × FL.D)) (ρ : Env) (g : FS) : (RS.exc c fs ρ).thn g = .exc c fs ρ := rfl
@[simp] theorem RS.thn_bad (g : FS) : (RS.bad).thn g = .bad := rfl
def sSeq (f g : FS) : FS := fun ρ => (f ρ).thn g
theorem seqS {f g : FS} (h : tS K mg W kp (sSeq f g) DE σ H) : tS K mg W kp f { DE with nx := fun σ' H' => tS K mg W kp g DE σ' H' } σ H := by
  obtain ⟨ρ, G, fp, c, q⟩ := h
  refine ⟨ρ, G, fp, c, ?_⟩
  unfold sSeq at q
  cases z : f ρ with
  | ok fl ρ' =>
    rw [z] at q
    cases fl with
    | nx => exact fun σ' G' H' fp' t cf k => ⟨ρ', G', fp', cf, q.step t k⟩
    | bk => exact q
    | ct => exact q
    | rt o => exact q
  | exc cc fs ρ' => rw [z] at q; exact q
  | bad => rw [z] at q; exact q
end
section
variable {X : Cx} {W : WX} {kp : List Nat} {st : Stmt} {rest : List Stmt} {f g : FS} {pos : Pos}
theorem sb_nil : SB X W kp [] sNx := PSsimp pss_nil fun D σ H ⟨ρ, G, fp, c, q⟩ => q σ G H fp Stp.refl c Keep.refl
theorem sb_cons (h1 : SS X W kp st f) (h2 : SB X W kp rest g) : SB X W kp (st :: rest) (sSeq f g) := PSsimp (pss_cons h1 h2) fun D σ H h => seqS h
theorem ss_pass : SS X W kp (.Pass pos) sNx := PSimp ps_pass fun D σ H ⟨ρ, G, fp, c, q⟩ => q σ G H fp Stp.refl c Keep.refl
theorem ss_break : SS X W kp (.Break pos) sBk := PSimp ps_break fun D σ H ⟨ρ, G, fp, c, q⟩ => q σ G H fp Stp.refl c Keep.refl
theorem ss_continue : SS X W kp (.Continue pos) sCt := PSimp ps_continue fun D σ H ⟨ρ, G, fp, c, q⟩ => q σ G H fp Stp.refl c Keep.refl
theorem ss_doc {x : Str} {j : Nat} {p : Pos} : SS X W kp (.Expr (.Constant (.str x) j p) pos) sNx := PSimp ps_doc fun D σ H ⟨ρ, G, fp, c, q⟩ => q σ G H fp Stp.refl c Keep.refl
theorem ss_retN : SS X W kp (.Return none pos) sRetN := PSimp ps_retN fun D σ H ⟨ρ, G, fp, c, q⟩ => q .non σ G H [] fp Stp.refl c Keep.refl (.dat .non) c.nd fun _ z => by cases z
end

section
variable {K : PySem.W.Frag} {mg : Str → Option Value} {W : WX} {G H G1 H1 G' H' : Hp} {fp fp1 fp' f : List Addr} {σ σ1 σ' : L2.St} {ρ ρ' : Env} {kp : List Nat} {DE : Ends}
theorem Stp.fz (h : ∀ a ∈ f, a ∈ fp) (n : ∀ a ∈ f, G a = none) (hs : ∀ a ∈ fp', a ∈ fp) : Stp G H fp (FL.fz G H f) H fp' :=
  ⟨fz_ex n, fun _ _ e _ => e, fun a u e => ⟨u, e⟩, fun a ha => .inl (hs a ha), fun a u e na _ g => by rw [fz_not fun z => na (h a z)]; exact g⟩
theorem mem_mid {α : Type} {x : α} {a b c : List α} (h : x ∈ a ++ c) : x ∈ a ++ b ++ c := by
  rcases List.mem_append.mp h with h | h
  · exact List.mem_append_left _ (List.mem_append_left _ h)
  · exact List.mem_append_right _ h
theorem nd_mid {α : Type} {a b c : List α} (h : (a ++ b ++ c).Nodup) : (a ++ c).Nodup ∧ b.Nodup ∧ ∀ x ∈ b, x ∉ a ++ c := by
  rw [List.append_assoc] at h
  obtain ⟨h1, h2, h3⟩ := nd_parts h
  obtain ⟨h4, h5, h6⟩ := nd_parts h2
  refine ⟨nd_join h1 h5 fun x hx hy => h3 x hx (List.mem_append_right _ hy), h4, fun x hx hy => ?_⟩
  rcases List.mem_append.mp hy with hy | hy
  · exact h3 x hy (List.mem_append_left _ hx)
  · exact h6 x hx hy
theorem Conf.frz {i : Nat} {p : List Nat} {v0 w : V} {o : O} {d : D} (c : Conf K G H σ ρ fp) (h0 : σ[i]? = some (some v0)) (ha : At H v0 p w) (e : getP ρ i p = some o) (ef : freeze o = some d) :
    ∃ G' fp', Stp G H fp G' H fp' ∧ Conf K G' H σ (putP ρ i p (.dat d)) fp' ∧ IsD K G' w d := by
  obtain ⟨pre, f1, post, e1, r1, l⟩ := c.rep.lensP c.ex h0 ha e
  have hin : ∀ a ∈ f1, a ∈ fp := fun a h => by rw [e1]; exact List.mem_append_left _ (List.mem_append_right _ h)
  have gn : ∀ a ∈ f1, G a = none := fun a h => c.fr a (hin a h)
  have nd := c.nd
  rw [e1] at nd
  obtain ⟨n1, n2, n3⟩ := nd_mid nd
  have q := r1.freeze ef f1 (fun _ h => h) gn
  have ms : ∀ a ∈ pre ++ post, a ∈ fp := fun a h => by rw [e1]; exact mem_mid h
  refine ⟨FL.fz G H f1, pre ++ post, Stp.fz hin gn ms, ⟨fz_in c.ex, ?_, n1, fun a h => ?_⟩, q⟩
  · have z := l (fz_ex (H := H) gn) (fun a _ u h => h) (.dat q)
    simpa using z
  · rw [fz_not fun z => n3 a z h]
    exact c.fr a (ms a h)
def toDat (ρ : Env) : Opd → Option (D × Env)
  | .tmp o => (freeze o).map fun d => (d, ρ)
  | .plc i p => match getP ρ i p with
    | some o => (freeze o).map fun d => (d, putP ρ i p (.dat d))
    | none => none
def toOwn (ρ : Env) : Opd → Option (O × Env)
  | .tmp o => some (o, ρ)
  | .plc i p => (toDat ρ (.plc i p)).map fun q => (.dat q.1, q.2)
theorem toDat_tmp (ρ : Env) (o : O) : toDat ρ (.tmp o) = (freeze o).map fun d => (d, ρ) := rfl
theorem toDat_plc (ρ : Env) (i : Nat) (p : List Nat) : toDat ρ (.plc i p) = match getP ρ i p with
    | some o => (freeze o).map fun d => (d, putP ρ i p (.dat d))
    | none => none := rfl
theorem toOwn_tmp (ρ : Env) (o : O) : toOwn ρ (.tmp o) = some (o, ρ) := rfl
theorem toOwn_plc (ρ : Env) (i : Nat) (p : List Nat) : toOwn ρ (.plc i p) = (toDat ρ (.plc i p)).map fun q => (.dat q.1, q.2) := rfl
theorem GotX.dat {o : Opd} {v : V} {d : D} {ρ2 : Env} (g : GotX K G H fp σ o v G' H' f ρ' fp') (e : toDat ρ' o = some (d, ρ2)) :
    ∃ G2 fp2, Stp G H fp G2 H' fp2 ∧ Conf K G2 H' σ ρ2 fp2 ∧ IsD K G2 v d := by
  cases o with
  | tmp o =>
    cases z : freeze o with
    | none => rw [toDat_tmp, z] at e; cases e
    | some d' =>
      rw [toDat_tmp, z] at e
      simp only [Option.map_some, Option.some.injEq, Prod.mk.injEq] at e
      obtain ⟨rfl, rfl⟩ := e
      obtain ⟨n1, n2, n3⟩ := nd_parts g.nd
      have r : Rep K G' H' v o f := g.rep
      have q := r.freeze z f (fun _ h => h) g.fr
      refine ⟨FL.fz G' H' f, fp', g.stp.trans (Stp.fz (fun a h => List.mem_append_left _ h) g.fr fun a h => List.mem_append_right _ h), ⟨fz_in g.conf.ex, g.conf.rep.mono (fz_ex g.fr) fun a _ u h => h, n2, fun a h => ?_⟩, q⟩
      rw [fz_not fun z => n3 a z h]
      exact g.conf.fr a h
  | plc i p =>
    obtain ⟨ef, v0, h0, ha⟩ := g.rep
    subst ef
    rw [toDat_plc] at e
    cases z : getP ρ' i p with
    | none => rw [z] at e; cases e
    | some o1 =>
      rw [z] at e
      cases z2 : freeze o1 with
      | none => simp only [z2, Option.map_none] at e; cases e
      | some d' =>
        simp only [z2, Option.map_some, Option.some.injEq, Prod.mk.injEq] at e
        obtain ⟨rfl, rfl⟩ := e
        obtain ⟨G2, fp2, s, c, q⟩ := g.conf.frz h0 ha z z2
        exact ⟨G2, fp2, (by simpa using g.stp : Stp G H fp G' H' fp').trans s, c, q⟩
theorem GotX.own {o : Opd} {v : V} {o2 : O} {ρ2 : Env} (g : GotX K G H fp σ o v G' H' f ρ' fp') (e : toOwn ρ' o = some (o2, ρ2)) :
    ∃ G2 f2 fp2, Stp G H fp G2 H' (f2 ++ fp2) ∧ Conf K G2 H' σ ρ2 fp2 ∧ Rep K G2 H' v o2 f2 ∧ (f2 ++ fp2).Nodup ∧ ∀ b ∈ f2, G2 b = none := by
  cases o with
  | tmp o =>
    rw [toOwn_tmp] at e
    simp only [Option.some.injEq, Prod.mk.injEq] at e
    obtain ⟨rfl, rfl⟩ := e
    exact ⟨G', f, fp', g.stp, g.conf, g.rep, g.nd, g.fr⟩
  | plc i p =>
    cases z : toDat ρ' (.plc i p) with
    | none => rw [toOwn_plc, z] at e; cases e
    | some q =>
      obtain ⟨d, ρ3⟩ := q
      rw [toOwn_plc, z] at e
      simp only [Option.map_some, Option.some.injEq, Prod.mk.injEq] at e
      obtain ⟨rfl, rfl⟩ := e
      obtain ⟨G2, fp2, s, c, q⟩ := g.dat z
      exact ⟨G2, [], fp2, s, c, .dat q, c.nd, fun _ z => by cases z⟩
end
end FL
namespace FL
open PySem L2
section
variable {K : PySem.W.Frag} {mg : Str → Option Value} {W : WX} {G H G1 H1 G' H' : Hp} {fp fp1 fp' f : List Addr} {σ σ1 σ' : L2.St} {ρ ρ' : Env} {kp : List Nat} {DE : Ends}
def RX.thn (r : RX) (k : Opd → FS) : RS := match r with
  | .ok o ρ => k o ρ
  | .exc c fs ρ => .exc c fs ρ
  | .bad => .bad
@[simp] theorem RX.thn_ok (o : Opd) (ρ : Env) (k : Opd → FS) : (RX.ok o ρ).thn k = k o ρ := rfl
@[simp] theorem RX.thn_exc (c : Str) (fs : List (Str × D)) (ρ : Env) (k : Opd → FS) : (RX.exc c fs ρ).thn k = .exc c fs ρ := rfl
@[simp] theorem RX.thn_bad (k : Opd → FS) : (RX.bad).thn k = .bad := rfl
theorem exprS {fx : FX} {k : Opd → FS} {Q : V → Hp → Prop} (c : Conf K G H σ ρ fp) (h : PostS K mg W kp ((fx ρ).thn k) DE σ G H fp)
    (next : ∀ o ρ' v G1 H1 f fp1, fx ρ = .ok o ρ' → GotX K G H fp σ o v G1 H1 f ρ' fp1 → PostS K mg W kp (k o ρ') DE σ G1 H1 (f ++ fp1) → Q v H1) : tX K mg W fx σ H Q := by
  refine ⟨ρ, G, fp, c, ?_⟩
  cases z : fx ρ with
  | ok o ρ' =>
    rw [z] at h
    exact fun v G' H' f fp' g => next o ρ' v G' H' f fp' z g (PostS.step g.stp Keep.refl h)
  | exc cc fs ρ' =>
    rw [z] at h
    exact fun cls d G' H' fp' m s cf ef => h cls d σ G' H' fp' m s cf Keep.refl ef
  | bad => rw [z] at h; exact h
def Rs.thn {α : Type} (r : Rs α) (ρ : Env) (k : α → FS) : RS := match r with
  | .ok a => k a ρ
  | .exc c fs => .exc c fs ρ
  | .bad => .bad
@[simp] theorem Rs.thn_ok {α : Type} (a : α) (ρ : Env) (k : α → FS) : (Rs.ok a).thn ρ k = k a ρ := rfl
@[simp] theorem Rs.thn_exc {α : Type} (c : Str) (fs : List (Str × D)) (ρ : Env) (k : α → FS) : (Rs.exc c fs : Rs α).thn ρ k = .exc c fs ρ := rfl
@[simp] theorem Rs.thn_bad {α : Type} (ρ : Env) (k : α → FS) : (Rs.bad : Rs α).thn ρ k = .bad := rfl
theorem pureS {υ α : Type} {R : RT υ α} {fe : Env → Rs α} {k : α → FS} {Q : υ → Hp → Prop} (c : Conf K G H σ ρ fp) (h : PostS K mg W kp ((fe ρ).thn ρ k) DE σ G H fp)
    (next : ∀ a v G1 H1 f, fe ρ = .ok a → Got G H σ R a v G1 H1 f → PostS K mg W kp (k a ρ) DE σ G1 H1 (f ++ fp) → Q v H1) : tG K mg W R fe σ H Q := by
  refine ⟨ρ, G, fp, c, ?_⟩
  cases z : fe ρ with
  | ok a =>
    rw [z] at h
    exact fun v G' H' f g => next a v G' H' f z g (PostS.step g.stp Keep.refl h)
  | exc cc fs =>
    rw [z] at h
    exact fun cls d G' H' m gr eh x ef => h cls d σ G' H' fp m (Stp.of gr eh) (c.grow gr eh x) Keep.refl ef
  | bad => rw [z] at h; exact h

theorem Conf.put {i : Nat} {v : V} {o : O} (c : Conf K G H σ ρ fp) (r : Rep K G H v o f) (nd : (f ++ fp).Nodup) (fr : ∀ b ∈ f, G b = none) :
    ∃ fp', Stp G H (f ++ fp) G H fp' ∧ Conf K G H (σ.set i (some v)) (ρ.set i (some o)) fp' := by
  obtain ⟨n1, n2, n3⟩ := nd_parts nd
  by_cases hi : i < ρ.length
  · obtain ⟨pre, f1, post, e, q⟩ := c.rep.put r i hi
    have hp : ∀ a ∈ pre ++ post, a ∈ fp := fun a h => by rw [e]; exact mem_mid h
    refine ⟨pre ++ f ++ post, Stp.refl.sub fun a h => ?_, c.ex, q, ?_, fun a h => ?_⟩
    · rcases List.mem_append.mp h with h | h
      · rcases List.mem_append.mp h with h | h
        · exact List.mem_append_right _ (hp a (List.mem_append_left _ h))
        · exact List.mem_append_left _ h
      · exact List.mem_append_right _ (hp a (List.mem_append_right _ h))
    · have nd2 := c.nd
      rw [e] at nd2
      obtain ⟨m1, m2, m3⟩ := nd_mid nd2
      obtain ⟨k1, k2, k3⟩ := nd_parts m1
      rw [List.append_assoc]
      refine nd_join k1 (nd_join n1 k2 fun x hx hy => n3 x hx (hp x (List.mem_append_right _ hy))) fun x hx hy => ?_
      rcases List.mem_append.mp hy with hy | hy
      · exact n3 x hy (hp x (List.mem_append_left _ hx))
      · exact k3 x hx hy
    · rcases List.mem_append.mp h with h | h
      · rcases List.mem_append.mp h with h | h
        · exact c.fr a (hp a (List.mem_append_left _ h))
        · exact fr a h
      · exact c.fr a (hp a (List.mem_append_right _ h))
  · have e1 : ρ.set i (some o) = ρ := List.set_eq_of_length_le (by omega)
    have e2 : σ.set i (some v) = σ := List.set_eq_of_length_le (by have := c.rep.length; omega)
    rw [e1, e2]
    exact ⟨fp, Stp.refl.sub fun a h => List.mem_append_right _ h, c⟩
theorem RepE.take : ∀ {σ : L2.St} {ρ : Env} {f : List Addr} {i : Nat} {o : O}, RepE K G H σ ρ f → ρ[i]? = some (some o) →
    ∃ v pre f1 post, σ[i]? = some (some v) ∧ f = pre ++ f1 ++ post ∧ Rep K G H v o f1 ∧ RepE K G H σ (ρ.set i none) (pre ++ post)
  | _, _, _, _, _, .nil, e => by simp at e
  | _, _, _, 0, _, .no t, e => by simp at e
  | _, _, _, 0, _, .yes (v := v) (f := f) (fs := fs) h t, e => by
    simp at e; subst e
    exact ⟨v, [], f, fs, rfl, by simp, h, by simpa using RepE.no t⟩
  | _, _, _, i + 1, o, .no t, e => by
    obtain ⟨v, pre, f1, post, g1, g2, g3, g4⟩ := RepE.take (i := i) (o := o) t (by simpa using e)
    exact ⟨v, pre, f1, post, by simpa using g1, g2, g3, by simpa using RepE.no g4⟩
  | _, _, _, i + 1, o, .yes (f := f) h t, e => by
    obtain ⟨v, pre, f1, post, g1, g2, g3, g4⟩ := RepE.take (i := i) (o := o) t (by simpa using e)
    refine ⟨v, f ++ pre, f1, post, by simpa using g1, by rw [g2]; simp [List.append_assoc], g3, ?_⟩
    have z := RepE.yes h g4
    simpa [List.append_assoc] using z
def toRet (kp : List Nat) (ρ : Env) : Opd → Option (O × Env)
  | .plc i p => if p = [] ∧ i ∉ kp then (match ρ[i]? with
      | some (some o) => some (o, ρ.set i none)
      | _ => none) else toOwn ρ (.plc i p)
  | o => toOwn ρ o
theorem GotX.ret {o : Opd} {v : V} {o2 : O} {ρ2 : Env} (g : GotX K G H fp σ o v G' H' f ρ' fp') (e : toRet kp ρ' o = some (o2, ρ2)) :
    ∃ G2 f2 fp2, Stp G H fp G2 H' (f2 ++ fp2) ∧ Conf K G2 H' σ ρ2 fp2 ∧ Rep K G2 H' v o2 f2 ∧ (f2 ++ fp2).Nodup ∧ ∀ b ∈ f2, G2 b = none := by
  cases o with
  | tmp o => exact g.own e
  | plc i p =>
    by_cases z : p = [] ∧ i ∉ kp
    · unfold toRet at e
      simp only [if_pos z] at e
      obtain ⟨rfl, _⟩ := z
      cases z : ρ'[i]? with
      | none => simp [z] at e
      | some oo =>
        cases oo with
        | none => simp [z] at e
        | some o1 =>
          simp only [z, Option.some.injEq, Prod.mk.injEq] at e
          obtain ⟨rfl, rfl⟩ := e
          obtain ⟨ef, v0, h0, ha⟩ := g.rep
          obtain rfl : v0 = v := ha
          subst ef
          obtain ⟨v1, pre, f1, post, g1, g2, g3, g4⟩ := g.conf.rep.take z
          rw [h0] at g1; cases g1
          have nd := g.conf.nd
          rw [g2] at nd
          obtain ⟨n1, n2, n3⟩ := nd_mid nd
          have m1 : ∀ a ∈ pre ++ post, a ∈ fp' := fun a h => by rw [g2]; exact mem_mid h
          have m2 : ∀ a ∈ f1, a ∈ fp' := fun a h => by rw [g2]; exact List.mem_append_left _ (List.mem_append_right _ h)
          refine ⟨G', f1, pre ++ post, (by simpa using g.stp : Stp G H fp G' H' fp').sub fun a h => (List.mem_append.mp h).elim (m2 a) (m1 a), ⟨g.conf.ex, g4, n1, fun a h => g.conf.fr a (m1 a h)⟩, g3, nd_join n2 n1 n3, fun b hb => g.conf.fr b (m2 b hb)⟩
    · unfold toRet at e
      simp only [if_neg z] at e
      exact g.own e

def toRS {α : Type} (q : Option (α × Env)) (k : α → FS) : RS := match q with
  | some (a, ρ) => k a ρ
  | none => .bad
@[simp] theorem toRS_some {α : Type} (a : α) (ρ : Env) (k : α → FS) : toRS (some (a, ρ)) k = k a ρ := rfl
@[simp] theorem toRS_none {α : Type} (k : α → FS) : toRS (none : Option (α × Env)) k = .bad := rfl
def sDrop (fx : FX) : FS := fun ρ => (fx ρ).thn fun _ => sNx
def sRet (kp : List Nat) (fx : FX) : FS := fun ρ => (fx ρ).thn fun o ρ' => toRS (toRet kp ρ' o) fun a => fun ρ2 => .ok (.rt a) ρ2
def sSet (i : Nat) (fx : FX) : FS := fun ρ => (fx ρ).thn fun o ρ' => toRS (toDat ρ' o) fun d => fun ρ2 => .ok .nx (ρ2.set i (some (.dat d)))
def sOwn (i : Nat) (fx : FX) : FS := fun ρ => (fx ρ).thn fun o ρ' => toRS (toOwn ρ' o) fun d => fun ρ2 => .ok .nx (ρ2.set i (some d))
end
section
variable {X : Cx} {W : WX} {kp : List Nat} {e : Expr} {fx : FX} {pos pos' : Pos}
theorem ss_expr (he : XX X W e fx) (hs : swapsWith e none pos.line X.env = pure false := by rfl) : SS X W kp (.Expr e pos) (sDrop fx) := PSimp (ps_expr he hs) fun D σ H ⟨ρ, G, fp, c, q⟩ =>
  exprS c q fun o ρ' v G1 H1 f fp1 _ g q1 => q1 σ G1 H1 fp1 (Stp.refl.sub fun a h => List.mem_append_right _ h) g.conf Keep.refl
theorem ss_ret (he : XX X W e fx) : SS X W kp (.Return (some e) pos) (sRet kp fx) := PSimp (ps_ret he) fun D σ H ⟨ρ, G, fp, c, q⟩ =>
  exprS c q fun o ρ' v G1 H1 f fp1 _ g q1 => by
    cases z : toRet kp ρ' o with
    | none => rw [z] at q1; exact q1.elim
    | some r =>
      obtain ⟨o2, ρ2⟩ := r
      rw [z] at q1
      obtain ⟨G2, f2, fp2, s, c2, r2, nd, fr⟩ := GotX.ret (G := G1) (H := H1) (fp := f ++ fp1) ⟨Stp.refl, g.conf, g.rep, g.nd, g.fr⟩ z
      exact q1 v σ G2 H1 f2 fp2 s c2 Keep.refl r2 nd fr
theorem ss_set {i : Nat} {x : Str} (hN : X.N.Nodup) (hi : X.N[i]? = some x) (hx : Loc X.env.scope x) (hk : i ∉ kp) (he : XX X W e fx) (hs : swapsWith e (some (.Name x pos')) pos.line X.env = pure false := by rfl) (hf : X.fn x = true ∨ X.env.scope.names.lookup x = some .local := by first | exact .inl rfl | exact .inr rfl | assumption) :
    SS X W kp (.Assign [.Name x pos'] e pos) (sSet i fx) := PSimp (ps_set hN hi hx he hs hf) fun D σ H ⟨ρ, G, fp, c, q⟩ =>
  exprS c q fun o ρ' v G1 H1 f fp1 _ g q1 => by
    cases z : toDat ρ' o with
    | none => rw [z] at q1; exact q1.elim
    | some r =>
      obtain ⟨d, ρ2⟩ := r
      rw [z] at q1
      obtain ⟨G2, fp2, s, c2, r2⟩ := GotX.dat (G := G1) (H := H1) (fp := f ++ fp1) ⟨Stp.refl, g.conf, g.rep, g.nd, g.fr⟩ z
      obtain ⟨fp3, s3, c3⟩ := c2.put (i := i) (.dat r2) (by simpa using c2.nd) (fun _ z => by cases z)
      exact q1 (σ.set i (some v)) G2 H1 fp3 (s.trans (by simpa using s3)) c3 (Keep.set hk)
theorem ss_own {i : Nat} {x : Str} (hN : X.N.Nodup) (hi : X.N[i]? = some x) (hx : Loc X.env.scope x) (hk : i ∉ kp) (he : XX X W e fx) (hs : swapsWith e (some (.Name x pos')) pos.line X.env = pure false := by rfl) (hf : X.fn x = true ∨ X.env.scope.names.lookup x = some .local := by first | exact .inl rfl | exact .inr rfl | assumption) :
    SS X W kp (.Assign [.Name x pos'] e pos) (sOwn i fx) := PSimp (ps_set hN hi hx he hs hf) fun D σ H ⟨ρ, G, fp, c, q⟩ =>
  exprS c q fun o ρ' v G1 H1 f fp1 _ g q1 => by
    cases z : toOwn ρ' o with
    | none => rw [z] at q1; exact q1.elim
    | some r =>
      obtain ⟨o2, ρ2⟩ := r
      rw [z] at q1
      obtain ⟨G2, f2, fp2, s, c2, r2, nd, fr⟩ := GotX.own (G := G1) (H := H1) (fp := f ++ fp1) ⟨Stp.refl, g.conf, g.rep, g.nd, g.fr⟩ z
      obtain ⟨fp3, s3, c3⟩ := c2.put (i := i) r2 nd fr
      exact q1 (σ.set i (some v)) G2 H1 fp3 (s.trans s3) c3 (Keep.set hk)
end

def sIf (g : FB) (a b : FS) : FS := fun ρ => (g ρ).thn ρ fun c => if c = true then a else b
def bX : Opd → Option Bool
  | .tmp (.dat (.bl b)) => some b
  | _ => none
def sIfX (fx : FX) (a b : FS) : FS := fun ρ => (fx ρ).thn fun o ρ' => match bX o with
  | some c => if c = true then a ρ' else b ρ'
  | none => .bad
section
variable {X : Cx} {W : WX} {kp : List Nat} {e c : Expr} {fx : FX} {g : FB} {a b : List Stmt} {fa fb : FS} {pos pos' : Pos}
theorem bX_is {K : PySem.W.Frag} {G H : Hp} {σ : L2.St} {o : Opd} {v : V} {f : List Addr} {k : Bool} (r : RO K G H σ v o f) (e : bX o = some k) : v = .bl k := by
  cases o with
  | plc i p => cases e
  | tmp o =>
    cases o with
    | node t l => cases e
    | pck l => cases e
    | dat d =>
      cases d with
      | bl b =>
        cases e
        cases r with
        | dat h => exact h.bl_inv
      | _ => cases e
theorem ss_if (hc : ET X W c g) (ha : SB X W kp a fa) (hb : SB X W kp b fb) : SS X W kp (.If c a b pos) (sIf g fa fb) := PSimp (ps_if hc ha hb) fun D σ H ⟨ρ, G, fp, cf, q⟩ =>
  pureS (R := RB) cf q fun k v G1 H1 f _ gg q1 => ⟨k, gg.rep.2, by
    have ef : f = [] := gg.rep.1
    subst ef
    cases k with
    | true => exact ⟨ρ, G1, fp, gg.conf cf, q1⟩
    | false => exact ⟨ρ, G1, fp, gg.conf cf, q1⟩⟩
theorem ss_ifX (hc : XX X W c fx) (ha : SB X W kp a fa) (hb : SB X W kp b fb) (he : ∀ whole, isTrue c X.env whole = (do let v ← whole; standAt c.pos; holding [v] (truthy v)) := by intro _; rfl) : SS X W kp (.If c a b pos) (sIfX fx fa fb) :=
  PSimp (ps_if (pt_val hc he) ha hb) fun D σ H ⟨ρ, G, fp, cf, q⟩ => exprS cf q fun o ρ' v G1 H1 f fp1 _ gg q1 => by
    cases z : bX o with
    | none => rw [z] at q1; exact q1.elim
    | some k =>
      rw [z] at q1
      refine ⟨k, bX_is gg.rep z, ?_⟩
      have q2 := PostS.step (Stp.refl.sub (fun a h => List.mem_append_right f h) : Stp G1 H1 (f ++ fp1) G1 H1 fp1) Keep.refl q1
      cases k with
      | true => exact ⟨ρ', G1, fp1, gg.conf, q2⟩
      | false => exact ⟨ρ', G1, fp1, gg.conf, q2⟩
end

def RS.turn (r : RS) (k : FS) : RS := match r with
  | .ok .nx ρ => k ρ
  | .ok .ct ρ => k ρ
  | .ok .bk ρ => .ok .nx ρ
  | r => r
@[simp] theorem RS.turn_nx (ρ : Env) (k : FS) : (RS.ok .nx ρ).turn k = k ρ := rfl
@[simp] theorem RS.turn_ct (ρ : Env) (k : FS) : (RS.ok .ct ρ).turn k = k ρ := rfl
@[simp] theorem RS.turn_bk (ρ : Env) (k : FS) : (RS.ok .bk ρ).turn k = .ok .nx ρ := rfl
@[simp] theorem RS.turn_rt (o : O) (ρ : Env) (k : FS) : (RS.ok (.rt o) ρ).turn k = .ok (.rt o) ρ := rfl
@[simp] theorem RS.turn_exc (c : Str) (fs : List (Str × D)) (ρ : Env) (k : FS) : (RS.exc c fs ρ).turn k = .exc c fs ρ := rfl
@[simp] theorem RS.turn_bad (k : FS) : (RS.bad).turn k = .bad := rfl
def whileN : Nat → FB → FS → FS
  | 0, _, _ => fun _ => .bad
  | n + 1, g, b => fun ρ => (g ρ).thn ρ fun c => if c = true then fun ρ => (b ρ).turn (whileN n g b) else sNx
theorem whileN_mono {g : FB} {b : FS} : ∀ {n m : Nat} {ρ : Env}, n ≤ m → whileN n g b ρ ≠ .bad → whileN m g b ρ = whileN n g b ρ
  | 0, _, _, _, h => absurd rfl h
  | n + 1, 0, _, h, _ => by omega
  | n + 1, m + 1, ρ, h, hb => by
    unfold whileN at hb ⊢
    cases z : g ρ with
    | exc c fs => rfl
    | bad => rfl
    | ok c =>
      rw [z] at hb
      cases c with
      | false => rfl
      | true =>
        simp only [Rs.thn_ok, if_true] at hb ⊢
        cases y : b ρ with
        | bad => rfl
        | exc c fs ρ' => rfl
        | ok fl ρ' =>
          rw [y] at hb
          cases fl with
          | nx => exact whileN_mono (by omega) hb
          | ct => exact whileN_mono (by omega) hb
          | bk => rfl
          | rt o => rfl
open Classical in
noncomputable def sWhile (g : FB) (b : FS) : FS := fun ρ => if h : ∃ n, whileN n g b ρ ≠ .bad then whileN (Classical.choose h) g b ρ else .bad
theorem sWhile_eq {g : FB} {b : FS} {n : Nat} {ρ : Env} {r : RS} (h : whileN n g b ρ = r) (hr : r ≠ .bad) : sWhile g b ρ = r := by
  unfold sWhile
  have hn : ∃ n, whileN n g b ρ ≠ .bad := ⟨n, by rw [h]; exact hr⟩
  rw [dif_pos hn]
  have hc := Classical.choose_spec hn
  rcases Nat.le_total n (Classical.choose hn) with l | l
  · rw [whileN_mono l (by rw [h]; exact hr), h]
  · rw [← whileN_mono l hc, h]
section
variable {X : Cx} {W : WX} {kp : List Nat} {c : Expr} {g : FB} {a : List Stmt} {fa : FS} {pos pos' : Pos}
theorem ss_while (hp : PassesOwn (model X.prog X.w) X.A X.env X.xe) (hc : ET X W c g) (ha : SB X W kp a fa) : SS X W kp (.While c a [] pos) (sWhile g fa) := PSimp (ps_while hp hc ha) fun D σ H ⟨ρ, G, fp, cf, q⟩ => by
  obtain ⟨n, hn⟩ : ∃ n, PostS X.K X.mg W kp (whileN n g fa ρ) D σ G H fp := by
    unfold sWhile at q
    by_cases h : ∃ n, whileN n g fa ρ ≠ .bad
    · rw [dif_pos h] at q; exact ⟨_, q⟩
    · rw [dif_neg h] at q; exact q.elim
  refine ⟨fun m σ H => ∃ ρ G fp, Conf X.K G H σ ρ fp ∧ PostS X.K X.mg W kp (whileN m g fa ρ) D σ G H fp, ⟨n, ρ, G, fp, cf, hn⟩, ?_⟩
  rintro m σ H ⟨ρ, G, fp, cf, q⟩
  cases m with
  | zero => exact q.elim
  | succ m =>
    unfold whileN at q
    refine pureS (R := RB) cf q fun k v G1 H1 f _ gg q1 => ⟨k, gg.rep.2, ?_⟩
    have ef : f = [] := gg.rep.1
    subst ef
    cases k with
    | false => exact q1 σ G1 H1 fp Stp.refl (gg.conf cf) Keep.refl
    | true =>
      refine ⟨fun σ' H' => ∃ ρ G fp, Conf X.K G H' σ' ρ fp ∧ PostS X.K X.mg W kp (whileN m g fa ρ) D σ' G H' fp, fun σ' H' h => ⟨m, by omega, h⟩, ?_⟩
      refine ⟨ρ, G1, fp, gg.conf cf, ?_⟩
      simp only [if_true] at q1
      cases y : fa ρ with
      | bad => rw [y] at q1; exact q1
      | exc cc fs ρ' => rw [y] at q1; exact q1
      | ok fl ρ' =>
        rw [y] at q1
        cases fl with
        | nx => exact fun σ' G' H' fp' s c k => ⟨ρ', G', fp', c, q1.step s k⟩
        | ct => exact fun σ' G' H' fp' s c k => ⟨ρ', G', fp', c, q1.step s k⟩
        | bk => exact fun σ' G' H' fp' s c k => q1 σ' G' H' fp' s c k
        | rt o => exact q1
end

abbrev FG := D → Env → Option Env
def tGt (K : PySem.W.Frag) (kp : List Nat) (b : FG) : TG := fun v σ H Q => ∃ ρ G fp d, Conf K G H σ ρ fp ∧ IsD K G v d ∧ ∃ ρ', b d ρ = some ρ' ∧ ∀ σ' fp', (∀ a ∈ fp', a ∈ fp) → Conf K G H σ' ρ' fp' → Keep kp σ σ' → Q σ' H
def tGts (K : PySem.W.Frag) (kp : List Nat) (b : List D → Env → Option Env) : TGs := fun vs σ H Q => ∃ ρ G fp ds, Conf K G H σ ρ fp ∧ IsDs K G vs ds ∧ ∃ ρ', b ds ρ = some ρ' ∧ ∀ σ' fp', (∀ a ∈ fp', a ∈ fp) → Conf K G H σ' ρ' fp' → Keep kp σ σ' → Q σ' H
abbrev GG (X : Cx) (kp : List Nat) (e : Expr) (b : FG) : Prop := PG X e (tGt X.K kp b)
abbrev GGs (X : Cx) (kp : List Nat) (es : List Expr) (b : List D → Env → Option Env) : Prop := PGs X es (tGts X.K kp b)
theorem PGimp {X : Cx} {e : Expr} {t t' : TG} (h : PG X e t) (i : ∀ v σ H Q, t' v σ H Q → t v σ H Q) : PG X e t' := ⟨fun pins s σ H v u Q I r q => h.run pins s σ H v u Q I r (i v σ H Q q)⟩
theorem PGsimp {X : Cx} {e : List Expr} {t t' : TGs} (h : PGs X e t) (i : ∀ v σ H Q, t' v σ H Q → t v σ H Q) : PGs X e t' := ⟨fun pins s σ H v u Q I r q => h.run pins s σ H v u Q I r (i v σ H Q q)⟩
def bName (i : Nat) : FG := fun d ρ => some (ρ.set i (some (.dat d)))
def bNil : List D → Env → Option Env
  | [], ρ => some ρ
  | _ :: _, _ => none
def bCons (b : FG) (bs : List D → Env → Option Env) : List D → Env → Option Env
  | d :: ds, ρ => (b d ρ).bind (bs ds)
  | [], _ => none
def bTup (n : Nat) (bs : List D → Env → Option Env) : FG
  | .tup ds, ρ => if ds.length = n then bs ds ρ else none
  | .lst ds, ρ => if ds.length = n then bs ds ρ else none
  | _, _ => none
section
variable {X : Cx} {kp : List Nat} {e : Expr} {es : List Expr} {b : FG} {bs : List D → Env → Option Env} {pos : Pos}
theorem gg_name {i : Nat} {x : Str} (hN : X.N.Nodup) (hi : X.N[i]? = some x) (hx : Loc X.env.scope x) (hk : i ∉ kp) (hf : X.fn x = true ∨ X.env.scope.names.lookup x = some .local) : GG X kp (.Name x pos) (bName i) :=
  PGimp (pg_name hN hi hx hf) fun v σ H Q ⟨ρ, G, fp, d, c, r, ρ', e, q⟩ => by
    cases e
    obtain ⟨fp', s, c'⟩ := c.put (i := i) (.dat r) (by simpa using c.nd) (fun _ z => by cases z)
    refine q _ fp' (fun a h => ?_) c' (Keep.set hk)
    have z := s.sb a h
    rcases z with z | z
    · simpa using z
    · obtain ⟨u, hu, _⟩ := c'.rep.live a h
      rw [z] at hu; cases hu
theorem ggs_nil : GGs X kp [] bNil := PGsimp pgs_nil fun vs σ H Q ⟨ρ, G, fp, ds, c, r, ρ', e, q⟩ => by
  cases ds with
  | nil => cases r; cases e; exact ⟨rfl, q σ fp (fun _ h => h) c Keep.refl⟩
  | cons d ds => cases e
theorem ggs_cons (h1 : GG X kp e b) (h2 : GGs X kp es bs) (hs : (assignEach (e :: es) X.env).map (·.2) = assign e X.env :: (assignEach es X.env).map (·.2) := by rfl) : GGs X kp (e :: es) (bCons b bs) :=
  PGsimp (pgs_cons h1 h2 hs) fun vs σ H Q ⟨ρ, G, fp, ds, c, r, ρ', e, q⟩ => by
    cases ds with
    | nil => cases e
    | cons d ds =>
      cases r with
      | cons r1 r2 =>
        have e : (b d ρ).bind (bs ds) = some ρ' := e
        cases z : b d ρ with
        | none => rw [z] at e; cases e
        | some ρ1 =>
          rw [z] at e
          exact ⟨_, _, rfl, ρ, G, fp, d, c, r1, ρ1, z, fun σ1 fp1 s1 c1 k1 => ⟨ρ1, G, fp1, ds, c1, r2, ρ', e, fun σ' fp' s' c' k' => q σ' fp' (fun a h => s1 a (s' a h)) c' (k1.trans k')⟩⟩
theorem pg_or {e : Expr} {t u : TG} (h : PG X e t) (h2 : PG X e u) : PG X e (fun v σ H Q => t v σ H Q ∨ u v σ H Q) :=
  ⟨fun pins s σ H v z Q I r q => q.elim (h.run pins s σ H v z Q I r) (h2.run pins s σ H v z Q I r)⟩
theorem gg_tup {k n : Nat} (hc : X.calm = true) (h : GGs X kp es bs) (hn : (assignEach es X.env).length = n := by rfl) (hst : (assignEach es X.env).findIdx? (·.1) = none := by rfl) : GG X kp (.Tuple es k pos) (bTup n bs) :=
  PGimp (pg_or (pg_tup hc h hn hst) (pg_unl hc h hn hst)) fun v σ H Q ⟨ρ, G, fp, d, c, r, ρ', e, q⟩ => by
    cases d with
    | tup ds =>
      have e : (if ds.length = n then bs ds ρ else none) = some ρ' := e
      by_cases z : ds.length = n
      · rw [if_pos z] at e
        cases r with
        | tup h1 h2 => exact .inl ⟨_, _, rfl, SqT.of (c.ex _ _ h1), by rw [h2.length]; exact z, ρ, G, fp, ds, c, h2, ρ', e, q⟩
      · rw [if_neg z] at e; cases e
    | lst ds =>
      have e : (if ds.length = n then bs ds ρ else none) = some ρ' := e
      by_cases z : ds.length = n
      · rw [if_pos z] at e
        cases r with
        | lst h1 h2 => exact .inr ⟨_, _, rfl, .inl (.inl (c.ex _ _ h1)), by rw [h2.length]; exact z, ρ, G, fp, ds, c, h2, ρ', e, q⟩
      · rw [if_neg z] at e; cases e
    | _ => cases e
def sAsg (b : FG) (fx : FX) : FS := fun ρ => (fx ρ).thn fun o ρ' => toRS (toDat ρ' o) fun d => fun ρ2 => match b d ρ2 with
  | some ρ3 => .ok .nx ρ3
  | none => .bad
theorem ss_asg {W : WX} {tg : Expr} {fx : FX} (he : XX X W e fx) (hg : GG X kp tg b) (hs : swapsWithSole [tg] e pos.line X.env = pure false := by rfl) (hw : swappedStores [tg] e X.env = pure none := by rfl)
    (h1 : (assignEach [tg] X.env).map (·.2) = [assign tg X.env] := by rfl) : SS X W kp (.Assign [tg] e pos) (sAsg b fx) := PSimp (ps_asg he hg hs hw h1) fun D σ H ⟨ρ, G, fp, c, q⟩ =>
  exprS c q fun o ρ' v G1 H1 f fp1 _ g q1 => by
    cases z : toDat ρ' o with
    | none => rw [z] at q1; exact q1.elim
    | some r =>
      obtain ⟨d, ρ2⟩ := r
      rw [z] at q1
      simp only [toRS_some] at q1
      obtain ⟨G2, fp2, s, c2, r2⟩ := GotX.dat (G := G1) (H := H1) (fp := f ++ fp1) ⟨Stp.refl, g.conf, g.rep, g.nd, g.fr⟩ z
      cases y : b d ρ2 with
      | none => rw [y] at q1; exact q1.elim
      | some ρ3 =>
        rw [y] at q1
        exact ⟨ρ2, G2, fp2, d, c2, r2, ρ3, y, fun σ' fp' s' c' k' => q1 σ' G2 H1 fp' (s.trans (Stp.refl.sub s')) c' k'⟩
end

structure WalkD (K : PySem.W.Frag) (G : Hp) (J : It) (l : List D) : Prop where
  goes : ∀ i H, i < l.length → Ex G H → J.go i H
  stops : ∀ H, Ex G H → J.stop l.length H
  yields : ∀ i G2 H x H' d, l[i]? = some d → Ex G G2 → Ex G2 H → J.yld i H x H' → Ex H H' ∧ ∃ G3, Gr G2 H G3 ∧ Ex G3 H' ∧ IsD K G3 x d
abbrev FI := Env → Rs (List D)
def tI (K : PySem.W.Frag) (mg : Str → Option Value) (W : WX) (f : FI) : TI := fun σ H R => ∃ ρ G fp, Conf K G H σ ρ fp ∧ match f ρ with
  | .ok l => ∀ J G' H', Gr G H G' → Ex H H' → Ex G' H' → WalkD K G' J l → R J H'
  | .exc c fs => ∀ cls d G' H', mg c = some cls → Gr G H G' → Ex H H' → Ex G' H' → ExF K G' H' d fs → W cls d σ H'
  | .bad => False
abbrev II (X : Cx) (W : WX) (tg it : Expr) (f : FI) : Prop := PI X tg it (tI X.K X.mg W f)
theorem PIimp {X : Cx} {tg e : Expr} {t t' : TI} (h : PI X tg e t) (i : ∀ σ H R, t' σ H R → t σ H R) : PI X tg e t' := ⟨fun pins s σ H R I q => h.run pins s σ H R I (i σ H R q)⟩
def forL (b : FG) (f : FS) : List D → FS
  | [] => sNx
  | d :: l => fun ρ => match b d ρ with
    | none => .bad
    | some ρ1 => (f ρ1).turn (forL b f l)
def sFor (fi : FI) (b : FG) (f : FS) : FS := fun ρ => (fi ρ).thn ρ fun l => forL b f l
section
variable {X : Cx} {W : WX} {kp : List Nat} {it tg : Expr} {fi : FI} {b : FG} {a : List Stmt} {fa : FS} {pos : Pos}
theorem forL_cons (d : D) (l : List D) (ρ : Env) : forL b fa (d :: l) ρ = match b d ρ with
    | none => .bad
    | some ρ1 => (fa ρ1).turn (forL b fa l) := rfl
theorem ss_for (hp : PassesOwn (model X.prog X.w) X.A X.env X.xe) (hc : X.calm = true) (hi : II X W tg it fi) (hg : GG X kp tg b) (ha : SB X W kp a fa) (hs : ∀ x, foldedSetIterable it X.env x = pure x := by intro _; rfl) :
    SS X W kp (.For tg it a [] pos) (sFor fi b fa) := PSimp (ps_for hp hc hi hg ha hs) fun D σ H ⟨ρ, G, fp, cf, q⟩ => by
  refine ⟨ρ, G, fp, cf, ?_⟩
  unfold sFor at q
  cases z : fi ρ with
  | exc cc fs =>
    rw [z] at q
    exact fun cls d G' H' m gr eh x ef => q cls d σ G' H' fp m (Stp.of gr eh) (cf.grow gr eh x) Keep.refl ef
  | bad => rw [z] at q; exact q
  | ok l =>
    rw [z] at q
    simp only [Rs.thn_ok] at q
    intro J G1 H1 gr eh x wk
    have q1 := PostS.step (Stp.of (fp := fp) gr eh) Keep.refl q
    refine ⟨fun i m σ H => m + i = l.length ∧ ∃ ρ G fp, Ex G1 G ∧ Conf X.K G H σ ρ fp ∧ PostS X.K X.mg W kp (forL b fa (l.drop i) ρ) D σ G H fp, ⟨l.length, by simp, ρ, G1, fp, Ex.refl _, cf.grow gr eh x, by simpa using q1⟩, ?_⟩
    rintro i m σ H ⟨em, ρ, G, fp, eg, cf, q⟩
    by_cases hi : i < l.length
    · have ed : l.drop i = l[i] :: l.drop (i + 1) := List.drop_eq_getElem_cons hi
      rw [ed, forL_cons] at q
      have gd : l[i]? = some l[i] := List.getElem?_eq_getElem hi
      refine .inr ⟨wk.goes i H hi (eg.trans cf.ex), fun σ' H' => ∃ ρ G fp, Ex G1 G ∧ Conf X.K G H' σ' ρ fp ∧ PostS X.K X.mg W kp (forL b fa (l.drop (i + 1)) ρ) D σ' G H' fp, fun σ' H' h => ⟨m - 1, by omega, by omega, h⟩, fun v H' y => ?_⟩
      obtain ⟨eh', G3, g3, x3, r3⟩ := wk.yields i G H v H' _ gd eg cf.ex y
      have s3 : Stp G H fp G3 H' fp := Stp.of g3 eh'
      have q3 := PostS.step s3 Keep.refl q
      cases zb : b l[i] ρ with
      | none => rw [zb] at q3; exact q3.elim
      | some ρ1 =>
        rw [zb] at q3
        have q3 : PostS X.K X.mg W kp ((fa ρ1).turn (forL b fa (l.drop (i + 1)))) D σ G3 H' fp := q3
        refine ⟨ρ, G3, fp, _, cf.grow g3 eh' x3, r3, ρ1, zb, fun σ4 fp4 s4 c4 k4 => ⟨ρ1, G3, fp4, c4, ?_⟩⟩
        have q4 := PostS.step (Stp.refl.sub s4 : Stp G3 H' fp G3 H' fp4) k4 q3
        have eg3 : Ex G1 G3 := eg.trans g3.ex
        cases y : fa ρ1 with
        | bad => rw [y] at q4; exact q4
        | exc cc fs ρ' => rw [y] at q4; exact q4
        | ok fl ρ' =>
          rw [y] at q4
          cases fl with
          | nx => exact fun σ' G' H' fp' s c k => ⟨ρ', G', fp', eg3.trans s.eg, c, q4.step s k⟩
          | ct => exact fun σ' G' H' fp' s c k => ⟨ρ', G', fp', eg3.trans s.eg, c, q4.step s k⟩
          | bk => exact fun σ' G' H' fp' s c k => q4 σ' G' H' fp' s c k
          | rt o => exact q4
    · have e : i = l.length := by omega
      subst e
      rw [List.drop_length] at q
      exact .inl ⟨wk.stops H (eg.trans cf.ex), q σ G H fp Stp.refl cf Keep.refl⟩
end
end FL
namespace FL
open PySem L2

structure WalkB (K : PySem.W.Frag) (G B : Hp) (J : It) (l : List D) : Prop where
  goes : ∀ i H, i < l.length → Ex B H → J.go i H
  stops : ∀ H, Ex B H → J.stop l.length H
  yields : ∀ i G2 H x H' d, l[i]? = some d → Ex G G2 → Ex G2 H → Ex B H → J.yld i H x H' → Ex H H' ∧ ∃ G3, Gr G2 H G3 ∧ Ex G3 H' ∧ IsD K G3 x d
theorem WalkB.toD {K : PySem.W.Frag} {G : Hp} {J : It} {l : List D} (w : WalkB K G G J l) : WalkD K G J l :=
  ⟨w.goes, w.stops, fun i G2 H x H' d e eg ex y => w.yields i G2 H x H' d e eg ex (eg.trans ex) y⟩
def tIr (K : PySem.W.Frag) (mg : Str → Option Value) (W : WX) (f : FI) : TI := fun σ H R => ∃ ρ G fp, Conf K G H σ ρ fp ∧ match f ρ with
  | .ok l => ∀ J G' H', Gr G H G' → Ex H H' → Ex G' H' → WalkB K G' H' J l → R J H'
  | .exc c fs => ∀ cls d G' H', mg c = some cls → Gr G H G' → Ex H H' → Ex G' H' → ExF K G' H' d fs → W cls d σ H'
  | .bad => False
abbrev IR (X : Cx) (W : WX) (tg it : Expr) (f : FI) : Prop := PI X tg it (tIr X.K X.mg W f)
theorem PIor {X : Cx} {tg it : Expr} {t u : TI} (h1 : PI X tg it t) (h2 : PI X tg it u) : PI X tg it (fun σ H R => t σ H R ∨ u σ H R) :=
  ⟨fun pins s σ H R I q => q.elim (h1.run pins s σ H R I) (h2.run pins s σ H R I)⟩

section
variable {K : PySem.W.Frag} {G B : Hp} {a b : Addr} {xs ys : List V} {l l2 : List D}
theorem wb_list (e : ∀ H, Ex B H → SqL K H a xs) (h : IsDs K G xs l) : WalkB K G B (Itl K a) l := by
  have hl := h.length
  refine ⟨fun i H hi eb => walk_list.goes i H (by omega) (e H eb), fun H eb => by rw [← hl]; exact walk_list.stops H (e H eb), fun i G2 H x H' d ed eg ex eb y => ?_⟩
  have hi : i < xs.length := by
    have := List.getElem?_eq_some_iff.mp ed
    obtain ⟨k, _⟩ := this
    omega
  obtain ⟨rfl, hx⟩ := walk_list.yields i H x H' hi (e H eb) y
  obtain ⟨v, h1, h2⟩ := h.get ed
  rw [hx] at h1; cases h1
  exact ⟨Ex.refl _, G2, Gr.refl, ex, h2.mono eg⟩
theorem wb_tup (e : ∀ H, Ex B H → SqT K H a xs) (h : IsDs K G xs l) : WalkB K G B (Itt K a) l := by
  have hl := h.length
  refine ⟨fun i H hi eb => walk_tup.goes i H (by omega) (e H eb), fun H eb => by rw [← hl]; exact walk_tup.stops H (e H eb), fun i G2 H x H' d ed eg ex eb y => ?_⟩
  have hi : i < xs.length := by
    have := List.getElem?_eq_some_iff.mp ed
    obtain ⟨k, _⟩ := this
    omega
  obtain ⟨rfl, hx⟩ := walk_tup.yields i H x H' hi (e H eb) y
  obtain ⟨v, h1, h2⟩ := h.get ed
  rw [hx] at h1; cases h1
  exact ⟨Ex.refl _, G2, Gr.refl, ex, h2.mono eg⟩
theorem wb_revL (e : ∀ H, Ex B H → SqL K H a xs) (h : IsDs K G xs l) : WalkB K G B (Itv K a xs.length) l.reverse := by
  have hl := h.length
  refine ⟨fun i H hi eb => walk_rev.goes i H (by simpa [hl] using hi) (e H eb), fun H eb => by rw [List.length_reverse, ← hl]; exact walk_rev.stops H (e H eb), fun i G2 H x H' d ed eg ex eb y => ?_⟩
  have hi : i < l.length := by
    have := List.getElem?_eq_some_iff.mp ed
    obtain ⟨k, _⟩ := this
    simpa using k
  obtain ⟨rfl, hx⟩ := walk_rev.yields i H x H' (by omega) (e H eb) y
  rw [List.getElem?_reverse hi] at ed
  obtain ⟨v, h1, h2⟩ := h.get ed
  rw [hl, h1] at hx; cases hx
  exact ⟨Ex.refl _, G2, Gr.refl, ex, h2.mono eg⟩
theorem wb_revT (e : ∀ H, Ex B H → SqT K H a xs) (h : IsDs K G xs l) : WalkB K G B (RT.ItvT K a xs.length) l.reverse := by
  have hl := h.length
  have W : Walk (RT.ItvT K a xs.length) xs.length (fun H => SqT K H a xs) (fun i H x H' => H' = H ∧ xs[xs.length - 1 - i]? = some x) :=
    ⟨fun i _ hi q => ⟨hi, xs, xs[xs.length - 1 - i]'(by omega), q, by simp [show xs.length - 1 - i < xs.length by omega]⟩, fun _ _ => Nat.le_refl _, fun _ _ _ _ _ q y => ⟨y.1, y.2 xs q⟩⟩
  refine ⟨fun i H hi eb => W.goes i H (by simpa [hl] using hi) (e H eb), fun H eb => by rw [List.length_reverse, ← hl]; exact W.stops H (e H eb), fun i G2 H x H' d ed eg ex eb y => ?_⟩
  have hi : i < l.length := by
    have := List.getElem?_eq_some_iff.mp ed
    obtain ⟨k, _⟩ := this
    simpa using k
  obtain ⟨rfl, hx⟩ := W.yields i H x H' (by omega) (e H eb) y
  rw [List.getElem?_reverse hi] at ed
  obtain ⟨v, h1, h2⟩ := h.get ed
  rw [hl, h1] at hx; cases hx
  exact ⟨Ex.refl _, G2, Gr.refl, ex, h2.mono eg⟩
def rangeC (lo c : Int) (n : Nat) : List D := (List.range n).map fun i => .int (lo + (i : Nat) * c)
def rangeD (lo hi : Int) : List D := (List.range (hi - lo).toNat).map fun i => .int (lo + (i : Nat))
@[simp] theorem rangeC_length (lo c : Int) (n : Nat) : (rangeC lo c n).length = n := by simp [rangeC]
@[simp] theorem rangeD_length (lo hi : Int) : (rangeD lo hi).length = (hi - lo).toNat := by simp [rangeD]
theorem wb_range (lo : Int) (n : Nat) {hi : Int} (hn : n = (hi - lo).toNat) : WalkB K G B (Itr lo n) (rangeD lo hi) := by
  subst hn
  refine ⟨fun i H hi _ => by rw [rangeD_length] at hi; exact hi, fun H _ => by rw [rangeD_length]; exact Nat.le_refl _, fun i G2 H x H' d ed eg ex eb y => ?_⟩
  obtain ⟨rfl, rfl⟩ := y
  have hi : i < (hi - lo).toNat := by
    have := List.getElem?_eq_some_iff.mp ed
    obtain ⟨k, _⟩ := this
    simpa using k
  simp only [rangeD, List.getElem?_map, List.getElem?_range hi, Option.map_some, Option.some.injEq] at ed
  subst ed
  exact ⟨Ex.refl _, G2, Gr.refl, ex, .int _⟩
theorem wb_rangeC (lo c : Int) (n : Nat) : WalkB K G B (Itc lo c n) (rangeC lo c n) := by
  refine ⟨fun i H hi _ => by rw [rangeC_length] at hi; exact hi, fun H _ => by rw [rangeC_length]; exact Nat.le_refl _, fun i G2 H x H' d ed eg ex eb y => ?_⟩
  obtain ⟨rfl, rfl⟩ := y
  have hi : i < n := by
    have := List.getElem?_eq_some_iff.mp ed
    obtain ⟨k, _⟩ := this
    simpa using k
  simp only [rangeC, List.getElem?_map, List.getElem?_range hi, Option.map_some, Option.some.injEq] at ed
  subst ed
  exact ⟨Ex.refl _, G2, Gr.refl, ex, .int _⟩
def strD (s : Str) : List D := s.cps.toList.map fun c => .str ⟨#[c]⟩
theorem wb_str (s : Str) : WalkB K G B (Its s) (strD s) := by
  have es : (strD s).length = s.cps.size := by simp [strD]
  refine ⟨fun i H hi _ => by rw [es] at hi; exact hi, fun H _ => by rw [es]; exact Nat.le_refl _, fun i G2 H x H' d ed eg ex eb y => ?_⟩
  obtain ⟨rfl, c, hc, rfl⟩ := y
  have e : (strD s)[i]? = some (.str ⟨#[c]⟩) := by
    simp only [strD, List.getElem?_map]
    have : s.cps.toList[i]? = some c := by simpa using hc
    rw [this]; rfl
  rw [e] at ed; cases ed
  exact ⟨Ex.refl _, G2, Gr.refl, ex, .str _⟩
def enumD (l : List D) : List D := (List.range l.length).zip l |>.map fun q => .tup [.int (q.1 : Nat), q.2]
def zipD (l l2 : List D) : List D := (l.zip l2).map fun q => .tup [q.1, q.2]
theorem pair_new {G2 H H' : Hp} {T : Addr} {x y : V} {d1 d2 : D} (ex : Ex G2 H) (n : H T = none) (e : H' = upd H T (.tup [x, y])) (r1 : IsD K G2 x d1) (r2 : IsD K G2 y d2) :
    Ex H H' ∧ ∃ G3, Gr G2 H G3 ∧ Ex G3 H' ∧ IsD K G3 (.ref T) (.tup [d1, d2]) := by
  subst e
  have gn : G2 T = none := L2.Same.free ex n
  exact ⟨Ex.new n, upd G2 T (.tup [x, y]), Gr.new n ex, ex.upd2 n, .tup upd_same (.cons (r1.mono (Ex.new gn)) (.cons (r2.mono (Ex.new gn)) .nil))⟩
theorem wb_enum (e : ∀ H, Ex B H → SqL K H a xs) (h : IsDs K G xs l) : WalkB K G B (Ite K a) (enumD l) := by
  have hl := h.length
  have el : (enumD l).length = xs.length := by simp [enumD, hl]
  refine ⟨fun i H hi eb => walk_enum.goes i H (by omega) (e H eb), fun H eb => by rw [el]; exact walk_enum.stops H (e H eb), fun i G2 H x H' d ed eg ex eb y => ?_⟩
  have hi : i < xs.length := by
    have := List.getElem?_eq_some_iff.mp ed
    obtain ⟨k, _⟩ := this
    omega
  obtain ⟨T, x1, x2, rfl, n, eh, h1, h2⟩ := walk_enum.yields i H x H' hi (e H eb) y
  cases h1
  obtain ⟨d2, g1, g2⟩ := h.getV h2
  have e2 : (enumD l)[i]? = some (.tup [.int (i : Nat), d2]) := by
    have z : ((List.range l.length).zip l)[i]? = some (i, d2) := List.getElem?_zip_eq_some.mpr ⟨List.getElem?_range (by omega), g1⟩
    simp only [enumD, List.getElem?_map, z, Option.map_some]
  rw [e2] at ed; cases ed
  exact pair_new ex n eh (.int _) (g2.mono eg)
theorem wb_zip (e : ∀ H, Ex B H → SqL K H a xs) (e2 : ∀ H, Ex B H → SqL K H b ys) (h : IsDs K G xs l) (h2 : IsDs K G ys l2) : WalkB K G B (Itz K a b) (zipD l l2) := by
  have hl := h.length
  have hl2 := h2.length
  have el : (zipD l l2).length = min xs.length ys.length := by simp [zipD, hl, hl2]
  have W := walk_zip (K := K) (a := a) (b := b) (xs := xs) (ys := ys) rfl
  refine ⟨fun i H hi eb => W.goes i H (by omega) ⟨e H eb, e2 H eb⟩, fun H eb => by rw [el]; exact W.stops H ⟨e H eb, e2 H eb⟩, fun i G2 H x H' d ed eg ex eb y => ?_⟩
  have hi : i < min xs.length ys.length := by
    have := List.getElem?_eq_some_iff.mp ed
    obtain ⟨k, _⟩ := this
    omega
  obtain ⟨T, x1, x2, rfl, n, eh, k1, k2⟩ := W.yields i H x H' hi ⟨e H eb, e2 H eb⟩ y
  obtain ⟨d1, g1, g2⟩ := h.getV k1
  obtain ⟨d2, g3, g4⟩ := h2.getV k2
  have e3 : (zipD l l2)[i]? = some (.tup [d1, d2]) := by
    have z : (l.zip l2)[i]? = some (d1, d2) := List.getElem?_zip_eq_some.mpr ⟨g1, g3⟩
    simp only [zipD, List.getElem?_map, z, Option.map_some]
  rw [e3] at ed; cases ed
  exact pair_new ex n eh (g2.mono eg) (g4.mono eg)
theorem wb_zipT (e : ∀ H, Ex B H → SqT K H a xs) (e2 : ∀ H, Ex B H → SqT K H b ys) (h : IsDs K G xs l) (h2 : IsDs K G ys l2) : WalkB K G B (RZ.ItzT K a b) (zipD l l2) := by
  have hl := h.length
  have hl2 := h2.length
  have el : (zipD l l2).length = min xs.length ys.length := by simp [zipD, hl, hl2]
  have W : Walk (RZ.ItzT K a b) (min xs.length ys.length) (fun H => SqT K H a xs ∧ SqT K H b ys) (YPair (fun i => xs[i]?) (fun i => ys[i]?)) := by
    refine ⟨fun i _ hi q => ?_, fun _ q => ⟨xs, ys, q.1, q.2, by omega⟩, fun i H v H' _ q y => ?_⟩
    · have h1 : i < xs.length := by omega
      have h2 : i < ys.length := by omega
      exact ⟨xs, ys, xs[i], ys[i], q.1, q.2, by simp [h1], by simp [h2]⟩
    · obtain ⟨T, x, z, h1, h2, h3, h4, h5⟩ := y
      exact ⟨T, x, z, h1, h2, h3, h4 xs q.1, h5 ys q.2⟩
  refine ⟨fun i H hi eb => W.goes i H (by omega) ⟨e H eb, e2 H eb⟩, fun H eb => by rw [el]; exact W.stops H ⟨e H eb, e2 H eb⟩, fun i G2 H x H' d ed eg ex eb y => ?_⟩
  have hi : i < min xs.length ys.length := by
    have := List.getElem?_eq_some_iff.mp ed
    obtain ⟨k, _⟩ := this
    omega
  obtain ⟨T, x1, x2, rfl, n, eh, k1, k2⟩ := W.yields i H x H' hi ⟨e H eb, e2 H eb⟩ y
  obtain ⟨d1, g1, g2⟩ := h.getV k1
  obtain ⟨d2, g3, g4⟩ := h2.getV k2
  have e3 : (zipD l l2)[i]? = some (.tup [d1, d2]) := by
    have z : (l.zip l2)[i]? = some (d1, d2) := List.getElem?_zip_eq_some.mpr ⟨g1, g3⟩
    simp only [zipD, List.getElem?_map, z, Option.map_some]
  rw [e3] at ed; cases ed
  exact pair_new ex n eh (g2.mono eg) (g4.mono eg)
end

def seqD : D → Option (List D)
  | .lst l => some l
  | .scr l => some l
  | .tup l => some l
  | .str s => some (strD s)
  | _ => none
def iSeq (f : FD) : FI := fun ρ => (f ρ).bnd fun d => toRs (seqD d)
def revD : D → Option (List D)
  | .lst l => some l.reverse
  | .scr l => some l.reverse
  | .tup l => some l.reverse
  | _ => none
def iRevD (f : FD) : FI := fun ρ => (f ρ).bnd fun d => toRs (revD d)
def okSm (i : Int) : Prop := -(2 ^ 62) ≤ i ∧ i < 2 ^ 62
noncomputable instance (i : Int) : Decidable (okSm i) := Classical.propDecidable _
noncomputable def smallR (i : Int) : Bool := decide (okSm i)
noncomputable def rngD : List D → Option (List D)
  | [.int j] => if smallR j then some (rangeD 0 j) else none
  | [.int i, .int j] => if smallR i && smallR j then some (rangeD i j) else none
  | [.int i, .int j, .int c] => if c ≠ 0 ∧ c.natAbs < 1073741824 ∧ Builtin.Range.small i j c = true ∧ 0 ≤ Builtin.Range.rangeSize i j c then some (rangeC i c (Builtin.Range.rangeSize i j c).toNat) else none
  | _ => none
noncomputable def iRng (f : FA) : FI := fun ρ => (f ρ).bnd fun ds => toRs (rngD ds)
def enD : List D → Option (List D)
  | [.lst l] => some (enumD l)
  | [.scr l] => some (enumD l)
  | _ => none
def iEn (f : FA) : FI := fun ρ => (f ρ).bnd fun ds => toRs (enD ds)
def zpD : List D → Option (List D)
  | [.tup l, .tup l2] => some (zipD l l2)
  | [.lst l, .lst l2] => some (zipD l l2)
  | [.lst l, .scr l2] => some (zipD l l2)
  | [.scr l, .lst l2] => some (zipD l l2)
  | [.scr l, .scr l2] => some (zipD l l2)
  | _ => none
def iZp (f : FA) : FI := fun ρ => (f ρ).bnd fun ds => toRs (zpD ds)
section
variable {X : Cx} {W : WX} {tg e e2 e3 : Expr} {fe : FE} {fa : FA} {p pos : Pos}
theorem smallR_ok {i : Int} (h : smallR i = true) : -(2 ^ 62) ≤ i ∧ i < 2 ^ 62 := by
  unfold smallR at h
  have z : okSm i := of_decide_eq_true h
  exact z
theorem tI_case {K : PySem.W.Frag} {mg : Str → Option Value} {α υ : Type} {R : RT υ α} {f : Env → Rs α} {k : α → Option (List D)} {σ : L2.St} {H : Hp} {Q : It → Hp → Prop}
    (h : tI K mg W (fun ρ => (f ρ).bnd fun d => toRs (k d)) σ H Q) : (∃ ρ G fp d l, Conf K G H σ ρ fp ∧ f ρ = .ok d ∧ k d = some l ∧ ∀ J G' H', Gr G H G' → Ex H H' → Ex G' H' → WalkD K G' J l → Q J H') ∨ ∀ Q1 : υ → Hp → Prop, tG K mg W R f σ H Q1 := by
  obtain ⟨ρ, G, fp, c, q⟩ := h
  cases z : f ρ with
  | exc cc fs => simp only [z] at q; exact .inr fun Q1 => ⟨ρ, G, fp, c, by rw [z]; exact q⟩
  | bad => simp only [z] at q; exact q.elim
  | ok d =>
    simp only [z, Rs.bnd_ok] at q
    cases y : k d with
    | none => rw [y] at q; exact q.elim
    | some l =>
      rw [y] at q
      exact .inl ⟨ρ, G, fp, d, l, c, z, y, q⟩
theorem tIr_case {K : PySem.W.Frag} {mg : Str → Option Value} {α υ : Type} {R : RT υ α} {f : Env → Rs α} {k : α → Option (List D)} {σ : L2.St} {H : Hp} {Q : It → Hp → Prop}
    (h : tIr K mg W (fun ρ => (f ρ).bnd fun d => toRs (k d)) σ H Q) : (∃ ρ G fp d l, Conf K G H σ ρ fp ∧ f ρ = .ok d ∧ k d = some l ∧ ∀ J G' H', Gr G H G' → Ex H H' → Ex G' H' → WalkB K G' H' J l → Q J H') ∨ ∀ Q1 : υ → Hp → Prop, tG K mg W R f σ H Q1 := by
  obtain ⟨ρ, G, fp, c, q⟩ := h
  cases z : f ρ with
  | exc cc fs => simp only [z] at q; exact .inr fun Q1 => ⟨ρ, G, fp, c, by rw [z]; exact q⟩
  | bad => simp only [z] at q; exact q.elim
  | ok d =>
    simp only [z, Rs.bnd_ok] at q
    cases y : k d with
    | none => rw [y] at q; exact q.elim
    | some l =>
      rw [y] at q
      exact .inl ⟨ρ, G, fp, d, l, c, z, y, q⟩
theorem tG_ok {K : PySem.W.Frag} {mg : Str → Option Value} {α υ : Type} {R : RT υ α} {f : Env → Rs α} {σ : L2.St} {G H : Hp} {ρ : Env} {fp : List Addr} {d : α} {Q1 : υ → Hp → Prop} (c : Conf K G H σ ρ fp) (z : f ρ = .ok d)
    (h : ∀ v G' H' f, Got G H σ R d v G' H' f → Q1 v H') : tG K mg W R f σ H Q1 := ⟨ρ, G, fp, c, by rw [z]; exact h⟩
theorem pi_any {t : TE} (h : PE X e t) : PI X tg e (fun σ H R => iList X.K t σ H R ∨ iTup X.K t σ H R ∨ iStr t σ H R) := PIor (pi_list h) (PIor (pi_tup h) (pi_str h))
theorem it_seq (h : EE X W e fe) : II X W tg e (iSeq (dE fe)) := PIimp (pi_any (to_d h)) fun σ H R q => by
  rcases tI_case (υ := V) (R := RD X.K) q with ⟨ρ, G, fp, d, l, c, z, y, w⟩ | n
  · have fr : ∀ {G1 H1 : Hp} {J : It}, Gr G H G1 → Ex H H1 → Ex G1 H1 → WalkB X.K G1 G1 J l → R J H1 := fun g e x wb => w _ _ _ g e x wb.toD
    cases d with
    | lst l' =>
      cases y
      refine .inl (tG_ok c z fun v G1 H1 f g => ?_)
      have r := g.rep.2
      cases r with
      | lst h1 h2 => exact ⟨_, rfl, ⟨_, SqL.of (g.x _ _ h1)⟩, fr g.gr g.eh g.x (wb_list (fun H e => SqL.of (e _ _ h1)) h2)⟩
    | scr l' =>
      cases y
      refine .inl (tG_ok c z fun v G1 H1 f g => ?_)
      have r := g.rep.2
      cases r with
      | scr h1 h2 => exact ⟨_, rfl, ⟨_, sql_mono g.x h1⟩, fr g.gr g.eh g.x (wb_list (fun H e => sql_mono e h1) h2)⟩
    | tup l' =>
      cases y
      refine .inr (.inl (tG_ok c z fun v G1 H1 f g => ?_))
      have r := g.rep.2
      cases r with
      | tup h1 h2 => exact ⟨_, rfl, ⟨_, sqt_mono g.x (SqT.of h1)⟩, fr g.gr g.eh g.x (wb_tup (fun H e => sqt_mono e (SqT.of h1)) h2)⟩
    | str s =>
      cases y
      refine .inr (.inr (tG_ok c z fun v G1 H1 f g => ?_))
      have r := g.rep.2
      cases r with
      | str _ => exact ⟨_, rfl, fr g.gr g.eh g.x (wb_str s)⟩
    | _ => cases y
  · exact .inl (n _)
theorem ir_seq (h : EE X W e fe) : IR X W tg e (iSeq (rdE fe)) := PIimp (pi_any (to_rd h)) fun σ H R q => by
  rcases tIr_case (υ := V) (R := RR X.K) q with ⟨ρ, G, fp, d, l, c, z, y, w⟩ | n
  · cases d with
    | lst l' =>
      cases y
      refine .inl (tG_ok c z fun v G1 H1 f g => ?_)
      obtain ⟨a, xs, rfl, h1, h2⟩ := g.rep.2.lst g.x
      exact ⟨_, rfl, ⟨_, SqL.of h1⟩, w _ _ _ g.gr g.eh g.x (wb_list (fun H e => SqL.of (e _ _ h1)) h2)⟩
    | scr l' =>
      cases y
      refine .inl (tG_ok c z fun v G1 H1 f g => ?_)
      obtain ⟨a, xs, rfl, h1, h2⟩ := g.rep.2.scr g.x
      exact ⟨_, rfl, ⟨_, h1⟩, w _ _ _ g.gr g.eh g.x (wb_list (fun H e => sql_mono e h1) h2)⟩
    | tup l' =>
      cases y
      refine .inr (.inl (tG_ok c z fun v G1 H1 f g => ?_))
      obtain ⟨a, xs, rfl, h1, _, h2⟩ := g.rep.2.tup g.x
      exact ⟨_, rfl, ⟨_, h1⟩, w _ _ _ g.gr g.eh g.x (wb_tup (fun H e => sqt_mono e h1) h2)⟩
    | str s =>
      cases y
      refine .inr (.inr (tG_ok c z fun v G1 H1 f g => ?_))
      rw [g.rep.2.str]
      exact ⟨_, rfl, w _ _ _ g.gr g.eh g.x (wb_str s)⟩
    | _ => cases y
  · exact .inl (n _)
end

section
variable {X : Cx} {W : WX} {tg e e2 e3 : Expr} {fe : FE} {fa : FA} {p pos : Pos}
theorem RdVs.int1 {K : PySem.W.Frag} {G H : Hp} {vs : List V} {i : Int} (h : RdVs K G H vs [.int i]) : vs = [.int i] := by
  cases h with
  | cons h t => cases t; rw [h.int]
theorem RdVs.int2 {K : PySem.W.Frag} {G H : Hp} {vs : List V} {i j : Int} (h : RdVs K G H vs [.int i, .int j]) : vs = [.int i, .int j] := by
  cases h with
  | cons h t =>
    rw [t.int1, h.int]
theorem RdVs.int3 {K : PySem.W.Frag} {G H : Hp} {vs : List V} {i j k : Int} (h : RdVs K G H vs [.int i, .int j, .int k]) : vs = [.int i, .int j, .int k] := by
  cases h with
  | cons h t =>
    rw [t.int2, h.int]
theorem rng_1 {ds l : List D} (h : rngD ds = some l) {K : PySem.W.Frag} {G H : Hp} {vs : List V} (r : RdVs K G H vs ds) (hl : ds.length = 1) : ∃ j : Int, vs = [.int j] ∧ -(2 ^ 62) ≤ j ∧ j < 2 ^ 62 ∧ l = rangeD 0 j := by
  unfold rngD at h
  split at h
  · split at h
    · next j z =>
      cases h
      exact ⟨j, r.int1, (smallR_ok z).1, (smallR_ok z).2, rfl⟩
    · cases h
  · simp at hl
  · simp at hl
  · cases h
theorem rng_2 {ds l : List D} (h : rngD ds = some l) {K : PySem.W.Frag} {G H : Hp} {vs : List V} (r : RdVs K G H vs ds) (hl : ds.length = 2) : ∃ i j : Int, vs = [.int i, .int j] ∧ (-(2 ^ 62) ≤ i ∧ i < 2 ^ 62 ∧ -(2 ^ 62) ≤ j ∧ j < 2 ^ 62) ∧ l = rangeD i j := by
  unfold rngD at h
  split at h
  · simp at hl
  · split at h
    · next i j z =>
      cases h
      simp only [Bool.and_eq_true] at z
      exact ⟨i, j, r.int2, ⟨(smallR_ok z.1).1, (smallR_ok z.1).2, (smallR_ok z.2).1, (smallR_ok z.2).2⟩, rfl⟩
    · cases h
  · simp at hl
  · cases h
theorem rng_3 {ds l : List D} (h : rngD ds = some l) {K : PySem.W.Frag} {G H : Hp} {vs : List V} (r : RdVs K G H vs ds) (hl : ds.length = 3) : ∃ (i j c : Int) (n : Nat), vs = [.int i, .int j, .int c] ∧ RgC i j c n ∧ l = rangeC i c n := by
  unfold rngD at h
  split at h
  · simp at hl
  · simp at hl
  · split at h
    · next i j k z =>
      cases h
      exact ⟨i, j, k, _, r.int3, ⟨z.1, z.2.1, z.2.2.1, by have := z.2.2.2; omega⟩, rfl⟩
    · cases h
  · cases h
def LenA (n : Nat) (f : FA) : Prop := ∀ ρ ds, f ρ = .ok ds → ds.length = n
theorem LenA.nil : LenA 0 aNil := fun ρ ds h => by unfold aNil at h; cases h; rfl
theorem LenA.cons {n : Nat} {f : FE} {fr : FA} (h : LenA n fr) : LenA (n + 1) (rCons f fr) := fun ρ ds e => by
  unfold rCons at e
  cases z : rdE f ρ with
  | exc c fs => rw [z] at e; cases e
  | bad => rw [z] at e; cases e
  | ok d =>
    rw [z] at e
    simp only [Rs.bnd_ok] at e
    cases y : fr ρ with
    | exc c fs => rw [y] at e; cases e
    | bad => rw [y] at e; cases e
    | ok l =>
      rw [y] at e
      simp only [Rs.bnd_ok, Rs.ok.injEq] at e
      subst e
      simp [h ρ l y]
theorem it_rng1 (hg : Gl X "range") (hm : X.mg "range" = none) (ha : ER X W [e] fa) (hl : LenA 1 fa) (hs : starEach [e] X.env = [(false, eval e X.env)] := by rfl) : II X W tg (.Call (.Name "range" p) [e] [] pos) (iRng fa) :=
  PIimp (pi_range1 hg hm ha hs) fun σ H R q => by
    rcases tI_case (υ := List V) (R := RAr X.K) q with ⟨ρ, G, fp, d, l, c, z, y, w⟩ | n
    · refine tG_ok c z fun v G1 H1 f g => ?_
      obtain ⟨j, h1, h2, h3, rfl⟩ := rng_1 y g.rep.2 (hl ρ d z)
      exact ⟨j, h1, h2, h3, w _ _ _ g.gr g.eh g.x (wb_range (K := X.K) (G := G1) (B := G1) 0 j.toNat (by simp)).toD⟩
    · exact n _
theorem it_rng2 (hg : Gl X "range") (hm : X.mg "range" = none) (ha : ER X W [e, e2] fa) (hl : LenA 2 fa) (hs : starEach [e, e2] X.env = [(false, eval e X.env), (false, eval e2 X.env)] := by rfl) (hs2 : starEach [e2] X.env = [(false, eval e2 X.env)] := by rfl) : II X W tg (.Call (.Name "range" p) [e, e2] [] pos) (iRng fa) :=
  PIimp (pi_range2 hg hm ha hs hs2) fun σ H R q => by
    rcases tI_case (υ := List V) (R := RAr X.K) q with ⟨ρ, G, fp, d, l, c, z, y, w⟩ | n
    · refine tG_ok c z fun v G1 H1 f g => ?_
      obtain ⟨i, j, h1, h2, rfl⟩ := rng_2 y g.rep.2 (hl ρ d z)
      exact ⟨i, j, h1, h2, w _ _ _ g.gr g.eh g.x (wb_range (K := X.K) (G := G1) (B := G1) i (j - i).toNat rfl).toD⟩
    · exact n _
theorem it_rng3 (hg : Gl X "range") (hm : X.mg "range" = none) (ha : ER X W [e, e2, e3] fa) (hl : LenA 3 fa) (hs : starEach [e, e2, e3] X.env = (false, eval e X.env) :: starEach [e2, e3] X.env := by rfl) (hpl : (backTo pos (starEach [e2, e3] X.env)).any (·.1) = false := by rfl) : II X W tg (.Call (.Name "range" p) [e, e2, e3] [] pos) (iRng fa) :=
  PIimp (pi_range3 hg hm ha hs hpl) fun σ H R q => by
    rcases tI_case (υ := List V) (R := RAr X.K) q with ⟨ρ, G, fp, d, l, c, z, y, w⟩ | n
    · refine tG_ok c z fun v G1 H1 f g => ?_
      obtain ⟨i, j, k, m, h1, h2, rfl⟩ := rng_3 y g.rep.2 (hl ρ d z)
      exact ⟨i, j, k, m, h1, h2, w _ _ _ g.gr g.eh g.x (wb_rangeC (K := X.K) (G := G1) (B := G1) i k m).toD⟩
    · exact n _
theorem II.ir {fi : FI} (h : II X W tg e fi) : IR X W tg e fi := PIimp h fun σ H R ⟨ρ, G, fp, c, q⟩ => by
  refine ⟨ρ, G, fp, c, ?_⟩
  cases z : fi ρ with
  | ok l =>
    rw [z] at q
    exact fun J G' H' g eh x w => q J G' H' g eh x ⟨fun i H hi e => w.goes i H hi (x.trans e), fun H e => w.stops H (x.trans e), fun i G2 H x' H' d e1 e2 e3 e4 y => w.yields i G2 H x' H' d e1 e2 e3 y⟩
  | exc cc fs => rw [z] at q; exact q
  | bad => rw [z] at q; exact q
end
end FL
namespace FL
open PySem L2 PyProof.Rows
open PySem.Sem (wp)
def SqA (K : PySem.W.Frag) (H : Hp) : Bool → Addr → List V → Prop
  | true => SqL K H
  | false => SqT K H
def IsA (h : Heap) : Bool → Addr → Array Value → Prop
  | true => h.IsList
  | false => h.IsTuple
def ItA (h : Heap) : Bool → Addr → Addr → Nat → Prop
  | true => h.IsListIter
  | false => h.IsTupleIter
section
variable {prog : Program} {w : World} {A : Around}
theorem drawsA (b : Bool) (hh : A.handled = none) (it l : Addr) (hne : l ≠ it) (items : Array Value) :
    Draws prog w A it [it, l] items.size (fun i v => items[i]? = some v) (fun i h => ItA h b it l i ∧ IsA h b l items) := by
  cases b with
  | true => exact Draws.list hh it l hne items
  | false => exact Draws.tuple hh it l hne items
theorem beginsA (b : Bool) (l : Addr) (items : Array Value) : ∃ o, Begins (.ref l) o (fun h => IsA h b l items) ∧ ∀ (h : Heap) (it : Addr), h.get? it = some o → ItA h b it l 0 := by
  cases b with
  | true => exact ⟨_, begins_list l items, fun h it e => ⟨_, e, rfl, rfl⟩⟩
  | false => exact ⟨_, begins_tuple l items, fun h it e => ⟨_, e, rfl, rfl⟩⟩
theorem ItA.keep {h h' : Heap} {b : Bool} {it l : Addr} {i : Nat} (st : ItA h b it l i) (k : ∀ o, h.get? it = some o → h'.get? it = some o) : ItA h' b it l i := by
  cases b with
  | true => exact Heap.IsListIter.at st fun o e => k o e
  | false => exact Heap.IsTupleIter.at st fun o e => k o e
theorem ItA.cellN {h : Heap} {b : Bool} {it l : Addr} {i : Nat} (st : ItA h b it l i) : ∃ o, h.get? it = some o ∧ ∀ v, o.data ≠ .cell v := by
  cases b with
  | true => obtain ⟨o, e, _, d⟩ := st; exact ⟨o, e, fun v q => by rw [d] at q; cases q⟩
  | false => obtain ⟨o, e, _, d⟩ := st; exact ⟨o, e, fun v q => by rw [d] at q; cases q⟩
end
section
variable {X : Cx} {pins : List (Addr × Obj)} {σ : L2.St} {H : Hp} {s : Shared} {b : Bool} {a : Addr} {xs ys : List V}
theorem sqA_inv (I : Inv X pins σ H s) (q : SqA X.K H b a xs) : ∃ its : List Value, Vals xs its ∧ IsA s.heap b a its.toArray ∧ a < s.heap.objs.size := by
  cases b with
  | true =>
    obtain ⟨its, rv, p, _⟩ := I.list q
    exact ⟨its, rv, p.isList, p.lt⟩
  | false =>
    obtain ⟨its, rv, p, _⟩ := I.tuple q
    obtain ⟨o, ho, _⟩ := id p
    exact ⟨its, rv, p, Heap.lt_size ho⟩
theorem sqA_inj (I : Inv X pins σ H s) (q : SqA X.K H b a xs) (q2 : SqA X.K H b a ys) : xs = ys := by
  cases b with
  | true => exact I.list_inj q q2
  | false => exact I.tuple_inj q q2
theorem sqA_mono {K : PySem.W.Frag} {H' : Hp} (e : Ex H H') (q : SqA K H b a xs) : SqA K H' b a xs := by
  cases b with
  | true => exact sql_mono e q
  | false => exact sqt_mono e q
end
def ItzM (K : PySem.W.Frag) (k1 k2 : Bool) (a b : Addr) : It :=
  ⟨fun i H => ∃ (xs ys : List V) (x y : V), SqA K H k1 a xs ∧ SqA K H k2 b ys ∧ xs[i]? = some x ∧ ys[i]? = some y,
    fun i H v H' => ∃ T x y, v = .ref T ∧ H T = none ∧ H' = upd H T (.tup [x, y]) ∧ (∀ xs, SqA K H k1 a xs → xs[i]? = some x) ∧ ∀ ys, SqA K H k2 b ys → ys[i]? = some y,
    fun i H => i = i ∧ ∃ xs ys : List V, (SqA K H k1 a xs ∧ SqA K H k2 b ys) ∧ i ≤ xs.length ∧ i ≤ ys.length ∧ (i = xs.length ∨ i = ys.length)⟩
theorem turn_zipM {P : Program} {w : World} {K : PySem.W.Frag} {elts : List Expr} {kk : Nat} {tpos : Pos} (k1 k2 : Bool) {a b z TI TO i1 i2 : Addr} (S : ZipSep2 z TI TO i1 i2 [i1, a] [i2, b]) (na : a ≠ i1) (nb : b ≠ i2) :
    Turn P w K (.Tuple elts kk tpos) (ItzM K k1 k2 a b) [z, TI, TO, i1, i2] z (fun i h => IsZip h z TI TO .none ∧ IsTupOf2 h TI (.ref i1) (.ref i2) ∧ (∃ x y, IsTupOf2 h TO x y) ∧ ItA h k1 i1 a i ∧ ItA h k2 i2 b i) where
  mem := by simp
  obj := fun i h st c hc => by
    obtain ⟨gz, gI, ⟨x, y, gO⟩, g1, g2⟩ := st
    simp only [List.mem_cons, List.not_mem_nil, or_false] at hc
    rcases hc with rfl | rfl | rfl | rfl | rfl
    · exact ⟨_, gz, fun v e => nomatch e⟩
    · exact ⟨_, gI, fun v e => nomatch e⟩
    · exact ⟨_, gO, fun v e => nomatch e⟩
    · exact g1.cellN
    · exact g2.cellN
  keep := fun i h h' st k => by
    obtain ⟨gz, gI, ⟨x, y, gO⟩, g1, g2⟩ := st
    exact ⟨k z (by simp) _ gz, k TI (by simp) _ gI, ⟨x, y, k TO (by simp) _ gO⟩, g1.keep fun o e => k i1 (by simp) o e, g2.keep fun o e => k i2 (by simp) o e⟩
  item := by
    intro X hP hw hK hc i pins s σ H E I hf st hg
    subst hP hw hK
    obtain ⟨gz, gI, ⟨x0, y0, gO⟩, g1, g2⟩ := st
    obtain ⟨xs, ys, x, y, qx, qy, ex, ey⟩ := hg
    obtain ⟨us, rv, p1, l1⟩ := sqA_inv I qx
    obtain ⟨us2, rv2, p2, l2⟩ := sqA_inv I qy
    obtain ⟨u, hu, ru⟩ := rv.get ex
    obtain ⟨u2, hu2, ru2⟩ := rv2.get ey
    have lt1 : i < us.toArray.size := by
      obtain ⟨n, _⟩ := List.getElem?_eq_some_iff.mp hu
      simpa using n
    have lt2 : i < us2.toArray.size := by
      obtain ⟨n, _⟩ := List.getElem?_eq_some_iff.mp hu2
      simpa using n
    have zl : z < s.heap.objs.size := Heap.lt_size gz
    have hh : X.A.in1.handled = none := I.ok.hd hc
    refine wpAny_pyNext_zipD2_item S (drawsA k1 hh i1 a na us.toArray) (drawsA k2 hh i2 b nb us2.toArray) gz gI gO ⟨g1, p1⟩ ⟨g2, p2⟩ lt1 lt2 fun v1 v2 h' tk y1 y2 gz' gO' s1' s2' gT hsz hk => ?_
    have e1 : v1 = u := by
      have t : us.toArray[i]? = some u := by simpa using hu
      exact Option.some.inj (y1.symm.trans t)
    have e2 : v2 = u2 := by
      have t : us2.toArray[i]? = some u2 := by simpa using hu2
      exact Option.some.inj (y2.symm.trans t)
    subst e1 e2
    refine ⟨_, rfl, wpAny_letOwnedTupleGo_zip (s := { s with heap := h', toks := tk }) gz' fun h'' gz'' sb => ?_⟩
    have gT2 : h''.get? s.heap.objs.size = some { cls := .type "tuple", data := .seq #[v1, v2] } := (sb.2 _ (Nat.ne_of_gt zl)).trans gT
    have nw : ObjOk X.prog X.w (upd H s.heap.objs.size (.tup [x, y])) h'' s.heap.objs.size (.tup [x, y]) :=
      ⟨by show 2 ≤ sizeLine; decide, [v1, v2], .cons ru (.cons ru2 .nil), ⟨_, gT2, rfl, _, rfl⟩⟩
    have I1 : Inv X pins σ (upd H s.heap.objs.size (.tup [x, y])) { s with heap := h'', toks := tk } :=
      I.turnedNew (ch := [z, TI, TO, i1, i2]) (fun c o nb e => by
        simp only [List.mem_cons, List.not_mem_nil, or_false, not_or] at nb
        obtain ⟨n1, n2, n3, n4, n5⟩ := nb
        exact (sb.2 c n1).trans (hk c o n1 n3 n4 n5 e)) hf (Nat.le_refl _) nw
    have up1 : ∀ c, c ≠ z → ∀ o, h'.get? c = some o → h''.get? c = some o := fun c n o e => (sb.2 c n).trans e
    refine ⟨.ref s.heap.objs.size, _, I1, rfl, ⟨_, x, y, rfl, I.hok.fresh (Nat.le_refl _), rfl, fun l q => by rw [sqA_inj I q qx]; exact ex, fun l q => by rw [sqA_inj I q qy]; exact ey⟩, ⟨gz'', up1 _ S.TIz _ (hk _ _ S.TIz S.TITO S.TIi1 S.TIi2 gI), ⟨v1, v2, up1 _ S.TOz _ gO'⟩, s1'.1.keep (up1 _ (Ne.symm S.zi1)), s2'.1.keep (up1 _ (Ne.symm S.zi2))⟩, fun c hcm => ?_⟩
    have hlt : c < s.heap.objs.size := by
      obtain ⟨o, e, _⟩ : ∃ o, s.heap.get? c = some o ∧ ∀ v, o.data ≠ .cell v := by
        simp only [List.mem_cons, List.not_mem_nil, or_false] at hcm
        rcases hcm with rfl | rfl | rfl | rfl | rfl
        · exact ⟨_, gz, fun v e => nomatch e⟩
        · exact ⟨_, gI, fun v e => nomatch e⟩
        · exact ⟨_, gO, fun v e => nomatch e⟩
        · exact g1.cellN
        · exact g2.cellN
      exact Heap.lt_size e
    rw [upd_ne (Nat.ne_of_lt hlt)]
    exact (hf c hcm).1
  done := by
    intro X hP hw hK hc i pins s σ H E I hf st hg
    subst hP hw hK
    obtain ⟨gz, gI, ⟨x0, y0, gO⟩, g1, g2⟩ := st
    obtain ⟨_, xs, ys, ⟨qx, qy⟩, le1, le2, hend⟩ := hg
    obtain ⟨us, rv, p1, l1⟩ := sqA_inv I qx
    obtain ⟨us2, rv2, p2, l2⟩ := sqA_inv I qy
    have n1 := rv.length
    have n2 := rv2.length
    have hh : X.A.in1.handled = none := I.ok.hd hc
    refine wpAny_pyNext_zipD2_end S (drawsA k1 hh i1 a na us.toArray) (drawsA k2 hh i2 b nb us2.toArray) gz gI gO ⟨g1, p1⟩ ⟨g2, p2⟩ (by simp; omega) (by simp; omega) (by simp; omega) fun h' tk hk => ⟨rfl, ?_⟩
    exact I.turnedL (ch := [z, TI, TO, i1, i2]) (fun c o nb e => by
        simp only [List.mem_cons, List.not_mem_nil, or_false, not_or] at nb
        obtain ⟨n1, n2, n3, n4, n5⟩ := nb
        exact hk c o n1 n3 n4 n5 e) hf
  self := fun A i s Q E st h => wpAny_pyIter_zip st.1 h
def iZipM (K : PySem.W.Frag) (ta : TA) : TI := fun σ H R => ta σ H fun vs H1 => ∃ k1 k2 a b xs ys, vs = [.ref a, .ref b] ∧ SqA K H1 k1 a xs ∧ SqA K H1 k2 b ys ∧ R (ItzM K k1 k2 a b) H1
theorem pi_zipM {X : Cx} {e e2 : Expr} {ta : TA} {p pos tpos : Pos} {elts : List Expr} {kk : Nat} (hg : Gl X "zip") (hm : X.mg "zip" = none) (ha : PA X [e, e2] ta)
    (hs : starEach [e, e2] X.env = (false, eval e X.env) :: starEach [e2] X.env := by rfl) (hpl : (backTo pos (starEach [e2] X.env)).any (·.1) = false := by rfl) :
    PI X (.Tuple elts kk tpos) (.Call (.Name "zip" p) [e, e2] [] pos) (iZipM X.K ta) := by
  refine ⟨fun pins s σ H R I h => ?_⟩
  refine Call_ (ld_blt I hg hm boot_zip (PyProof.Rows.callWith_type1 (thn (ha.run pos pins s σ H _ I h) fun us s1 got => ?_) hs hpl))
  obtain ⟨vs, H1, I1, r1, k1, k2, a, b, xs, ys, rfl, qx, qy, q⟩ := got
  cases r1 with
  | cons r rr =>
    cases rr with
    | cons r' rr =>
      cases rr
      cases r
      cases r'
      obtain ⟨its, rv, p1, l1⟩ := sqA_inv I1 qx
      obtain ⟨its2, rv2, p2, l2⟩ := sqA_inv I1 qy
      obtain ⟨o1, B1, t1⟩ := beginsA k1 a its.toArray
      obtain ⟨o2, B2, t2⟩ := beginsA k2 b its2.toArray
      refine zip_begins2 B1 B2 p1 p2 fun h' gz gI gO g1 g2 hsz hk => wpAny_pyIter_zip gz ?_
      have I2 : Inv X pins σ H1 { s1 with heap := h' } := I1.kept (t' := s1.toks) hk
      have S : ZipSep2 (s1.heap.objs.size + 4) (s1.heap.objs.size + 2) (s1.heap.objs.size + 3) s1.heap.objs.size (s1.heap.objs.size + 1) [s1.heap.objs.size, a] [s1.heap.objs.size + 1, b] := zip_sep2 (fun c hc => by simp at hc; subst hc; exact l1) (fun c hc => by simp at hc; subst hc; exact l2)
      refine ⟨s1.heap.objs.size + 4, [s1.heap.objs.size + 4, s1.heap.objs.size + 2, s1.heap.objs.size + 3, s1.heap.objs.size, s1.heap.objs.size + 1], _, _, H1, rfl, I2, turn_zipM k1 k2 S (Nat.ne_of_lt l1) (Nat.ne_of_lt (Nat.lt_succ_of_lt l2)), ⟨gz, gI, ⟨_, _, gO⟩, t1 _ _ g1, t2 _ _ g2⟩, fun c hcm => ?_, q⟩
      have hle : s1.heap.objs.size ≤ c := by
        simp only [List.mem_cons, List.not_mem_nil, or_false] at hcm
        rcases hcm with rfl | rfl | rfl | rfl | rfl
        · exact Nat.le_add_right _ _
        · exact Nat.le_add_right _ _
        · exact Nat.le_add_right _ _
        · exact Nat.le_refl _
        · exact Nat.le_add_right _ _
      exact I1.fpOk hle (I1.hok.fresh hle)
section
variable {K : PySem.W.Frag} {G B : Hp} {a b : Addr} {xs ys : List V} {l l2 : List D}
theorem wb_zipM {k1 k2 : Bool} (e : ∀ H, Ex B H → SqA K H k1 a xs) (e2 : ∀ H, Ex B H → SqA K H k2 b ys) (h : IsDs K G xs l) (h2 : IsDs K G ys l2) : WalkB K G B (ItzM K k1 k2 a b) (zipD l l2) := by
  have hl := h.length
  have hl2 := h2.length
  have el : (zipD l l2).length = min xs.length ys.length := by simp [zipD, hl, hl2]
  refine ⟨fun i H hi eb => ?_, fun H eb => ⟨rfl, xs, ys, ⟨e H eb, e2 H eb⟩, by omega, by omega, by omega⟩, fun i G2 H x H' d ed eg ex eb y => ?_⟩
  · have n1 : i < xs.length := by omega
    have n2 : i < ys.length := by omega
    exact ⟨xs, ys, xs[i], ys[i], e H eb, e2 H eb, by simp [n1], by simp [n2]⟩
  obtain ⟨T, x1, x2, rfl, n, eh, f1, f2⟩ := y
  obtain ⟨d1, g1, g2⟩ := h.getV (f1 _ (e H eb))
  obtain ⟨d2, g3, g4⟩ := h2.getV (f2 _ (e2 H eb))
  have e3 : (zipD l l2)[i]? = some (.tup [d1, d2]) := by
    have t : (l.zip l2)[i]? = some (d1, d2) := List.getElem?_zip_eq_some.mpr ⟨g1, g3⟩
    simp only [zipD, List.getElem?_map, t, Option.map_some]
  rw [e3] at ed; cases ed
  exact pair_new ex n eh (g2.mono eg) (g4.mono eg)
end
end FL
namespace FL
open PySem L2 PyProof.Rows
open PySem.Sem (wp)
set_option maxHeartbeats 1000000 in
theorem meets_enum_tup (l : Addr) (items : Array Value) :
    Meets (Builtin.«enumerate.__new__» ⟨[.type "enumerate", .ref l], []⟩) (fun _ R s => s.heap.IsTuple l items ∧
      R (.ok (.ret (.ref (s.heap.push { cls := .type "tuple_iterator", data := .fields #[.ref l, .int 0 0] }).objs.size)))
        { s with heap := (s.heap.push { cls := .type "tuple_iterator", data := .fields #[.ref l, .int 0 0] }).push { cls := .type "enumerate", data := .fields #[.none, .bool false, .ref s.heap.objs.size, rawInt 0, .none, .none] } }) :=
  .of_wp fun prog w A R s h => by
    obtain ⟨hp, g, d, tk, os⟩ := s; obtain ⟨hl, h⟩ := h
    have hsub := sub_enumerate
    have hL : Heap.IsTuple (Shared.heap ⟨hp, g, d, tk, os⟩) l items := hl
    have q1 : ∀ {A' : Around} {E : Value → Shared → Prop} {Q : Value → Shared → Prop}, Q (.ref hp.objs.size) ⟨hp.push { cls := .type "tuple_iterator", data := .fields #[.ref l, .int 0 0] }, g, d, tk, os⟩ → wpAny (model prog w) A' (pyIter (.ref l)) Q E ⟨hp, g, d, tk, os⟩ :=
      fun q => wpAny_pyIter_tuple hL q
    wp_walk using q1
    refine wpAny_stack_any fun st => wpAny_pure ?_
    split
    · rename_i c _ _ _ _ _
      cases (c == Value.type "enumerate")
      · wp_walk using q1
        exact ⟨_, rfl, h⟩
      · wp_walk using q1
        exact ⟨_, rfl, h⟩
    · wp_walk using q1
      exact ⟨_, rfl, h⟩
section
variable {prog : Program} {w : World} {A : Around} {E : Value → Shared → Prop} {s : Shared}
theorem call_enum_tup {l : Addr} {items : Array Value} {Q : Value → Shared → Prop} (hL : s.heap.IsTuple l items)
    (h : ∀ h', IsEnum h' (s.heap.objs.size + 1) s.heap.objs.size 0 .none → h'.IsTupleIter s.heap.objs.size l 0 → h'.objs.size = s.heap.objs.size + 2 →
      (∀ b o, s.heap.get? b = some o → h'.get? b = some o) → Q (.ref (s.heap.objs.size + 1)) { s with heap := h' }) :
    wpAny (model prog w) A (call (.type "enumerate") [.ref l]) Q E s := by
  refine callType_new F.called_enumerate (by decide) (F.typeCall_enumerate_1 _) (F.newCall_enumerate_1 _) (fun obj => F.args_object_init_2 obj _) F.entry_enumerate_new
    (meets_enum_tup l items) ⟨hL, ?_⟩
  have hz : (s.heap.push { cls := .type "tuple_iterator", data := .fields #[.ref l, .int 0 0] }).objs.size = s.heap.objs.size + 1 := Heap.size_push ..
  show _ ∧ _
  rw [hz]
  have he : IsEnum ((s.heap.push { cls := .type "tuple_iterator", data := .fields #[.ref l, .int 0 0] }).push
      { cls := .type "enumerate", data := .fields #[.none, .bool false, .ref s.heap.objs.size, rawInt 0, .none, .none] }) (s.heap.objs.size + 1) s.heap.objs.size 0 .none := by
    have := Heap.get?_push_size (s.heap.push { cls := .type "tuple_iterator", data := .fields #[.ref l, .int 0 0] })
      (o := { cls := .type "enumerate", data := .fields #[.none, .bool false, .ref s.heap.objs.size, rawInt 0, .none, .none] }) rfl
    rw [hz] at this; exact this
  refine ⟨⟨_, he, rfl⟩, h _ he ⟨_, Heap.get?_push_of_some _ (Heap.get?_push_size _ rfl), rfl, rfl⟩ (by rw [Heap.size_push, hz]) fun b o x => Heap.get?_push_of_some _ (Heap.get?_push_of_some _ x)⟩
end
def IteT (K : PySem.W.Frag) (a : Addr) : It :=
  ⟨fun i H => ∃ (xs : List V) (x : V), SqT K H a xs ∧ xs[i]? = some x, fun i H v H' => ∃ T x, v = .ref T ∧ H T = none ∧ H' = upd H T (.tup [.int (i : Nat), x]) ∧ ∀ xs, SqT K H a xs → xs[i]? = some x, fun i H => ∃ xs : List V, SqT K H a xs ∧ xs.length ≤ i⟩
theorem turn_enumT {P : Program} {w : World} {K : PySem.W.Frag} {elts : List Expr} {kk : Nat} {tpos : Pos} (a e it : Addr) :
    Turn P w K (.Tuple elts kk tpos) (IteT K a) [e, it] e (fun i h => (∃ old, IsEnum h e it ((i : Nat) : Int) old) ∧ h.IsTupleIter it a i ∧ e ≠ it ∧ a ≠ it ∧ a ≠ e) where
  mem := by simp
  obj := fun i h st b hb => by
    obtain ⟨⟨old, he⟩, ⟨o, ho, hc, hd⟩, _⟩ := st
    have e' : b = e ∨ b = it := by simpa using hb
    rcases e' with z | z
    · rw [z]; exact ⟨_, he, fun v q => nomatch q⟩
    · rw [z]; exact ⟨o, ho, fun v q => by rw [hd] at q; cases q⟩
  keep := fun i h h' st k => let ⟨⟨old, he⟩, hi, hne⟩ := st; ⟨⟨old, k e (by simp) _ he⟩, hi.at fun o q => k it (by simp) o q, hne⟩
  item := by
    intro X hP hw hK hc i pins s σ H E I hf st hg
    subst hP hw hK
    obtain ⟨⟨old, he⟩, hit, hne, hai, hae⟩ := st
    obtain ⟨xs, x, hq, hx⟩ := hg
    obtain ⟨its, rv, p, _⟩ := I.tuple hq
    obtain ⟨u, hu, ru⟩ := rv.get hx
    have hel : e < s.heap.objs.size := Heap.lt_size he
    have hil : it < s.heap.objs.size := by obtain ⟨_, q, _⟩ := hit; exact Heap.lt_size q
    have hlt : i < its.toArray.size := by
      have := List.getElem?_eq_some_iff.mp hu
      obtain ⟨k, _⟩ := this
      simpa using k
    refine wpAny_pyNext_enum_itemD (Draws.tuple (A := X.A.in1) (I.ok.hd hc) it a hai its.toArray) he ⟨hit, p⟩ hlt hne (by simp [hne, Ne.symm hae]) fun y h' tk hy ho hst' hT hsz hk => ?_
    have ey : y = u := by
      have : its.toArray[i]? = some u := by simpa using hu
      exact Option.some.inj (hy.symm.trans this)
    subst ey
    refine ⟨_, rfl, wpAny_letOwnedTupleGo_enum (s := { s with heap := h', toks := tk + 1 }) ho fun h'' he' sb => ?_⟩
    have hT2 : h''.get? s.heap.objs.size = some { cls := .type "tuple", data := .seq #[.int i tk, y] } := (sb.2 _ (Nat.ne_of_gt hel)).trans hT
    have new : ObjOk X.prog X.w (upd H s.heap.objs.size (.tup [.int (i : Nat), x])) h'' s.heap.objs.size (.tup [.int (i : Nat), x]) :=
      ⟨by show 2 ≤ sizeLine; decide, [.int i tk, y], .cons ⟨_, rfl⟩ (.cons ru .nil), ⟨_, hT2, rfl, _, rfl⟩⟩
    have I1 : Inv X pins σ (upd H s.heap.objs.size (.tup [.int (i : Nat), x])) { s with heap := h'', toks := tk + 1 } :=
      I.turnedNew (ch := [e, it]) (fun b ob hb q => (sb.2 b (fun z => hb (by simp [z]))).trans (hk b ob (fun z => hb (by simp [z])) (fun z => hb (by simp [z])) q)) hf (Nat.le_refl _) new
    refine ⟨.ref s.heap.objs.size, _, I1, rfl, ⟨_, x, rfl, I.hok.fresh (Nat.le_refl _), rfl, fun ys hy => by rw [I.tuple_inj hy hq]; exact hx⟩, ⟨⟨y, ?_⟩, hst'.1.at fun o q => (sb.2 it (Ne.symm hne)).trans q, hne, hai, hae⟩, fun b hb => ?_⟩
    · have e1 : ((i + 1 : Nat) : Int) = (i : Int) + 1 := by omega
      rw [e1]; exact he'
    · have hb' : b < s.heap.objs.size := by
        have e' : b = e ∨ b = it := by simpa using hb
        rcases e' with z | z
        · rw [z]; exact hel
        · rw [z]; exact hil
      rw [upd_ne (Nat.ne_of_lt hb')]
      exact (hf b hb).1
  done := by
    intro X hP hw hK hc i pins s σ H E I hf st hg
    subst hP hw hK
    obtain ⟨⟨old, he⟩, hit, hne, hai, hae⟩ := st
    obtain ⟨xs, hq, hx⟩ := hg
    obtain ⟨its, rv, p, _⟩ := I.tuple hq
    obtain ⟨f0, f1, f2, f3, f4, f5⟩ := hf it (by simp)
    have hl := rv.length
    have hT : s.TypeIs (.ref e) "enumerate" := ⟨_, he, rfl⟩
    unfold pyNext
    refine wpAny_bind (wpAny_attempt (wpAny_callSpecial?_slot (name := Str.ofString "__next__") hT F.slot_enumerate_next
      (wpAny_call_entry F.slot_enumerate_next hT F.entry_enumerate_next ?_ (F.args_enumerate_next_1 _))))
    show wpAny _ _ (field (.ref e) 2 >>= _) _ _ _
    refine wpAny_bind (wpAny_field he rfl (x := .ref it) rfl ?_)
    refine wpAny_bind (wpAny_nextOf_tuple_end (A := X.A.in1) (I.ok.hd hc) hit p (by simp; omega) fun h' x he' hx' => ?_)
    obtain ⟨o, ho, hcl⟩ := hx'
    refine wpAny_bind (wpAny_isInstance (T := "StopIteration") (b := true) ⟨o, ho, hcl⟩ isSubtype_stop ?_)
    exact wpAny_pure ⟨rfl, I.turned (t' := s.toks) (fun b o hb q => he' b o hb q) f0 f1 f3 f4 f5⟩
  self := fun A i s Q E st h => let ⟨⟨_, he⟩, _⟩ := st; wpAny_pyIter_enum he h
def iEnumA (K : PySem.W.Frag) (ta : TA) : TI := fun σ H R => ta σ H fun vs H1 => ∃ a xs, vs = [.ref a] ∧ ((SqL K H1 a xs ∧ R (Ite K a) H1) ∨ (SqT K H1 a xs ∧ R (IteT K a) H1))
theorem pi_enumA {X : Cx} {e : Expr} {ta : TA} {p pos tpos : Pos} {elts : List Expr} {kk : Nat} (hg : Gl X "enumerate") (hm : X.mg "enumerate" = none) (ha : PA X [e] ta) (hs : starEach [e] X.env = [(false, eval e X.env)] := by rfl) :
    PI X (.Tuple elts kk tpos) (.Call (.Name "enumerate" p) [e] [] pos) (iEnumA X.K ta) := by
  refine ⟨fun pins s σ H R I h => ?_⟩
  refine Call_ (ld_blt I hg hm boot_enumerate (PyProof.Rows.callWith_type1 (thn (ha.run pos pins s σ H _ I h) fun us s1 ⟨vs, H1, I1, r1, q1⟩ => ?_) hs rfl))
  obtain ⟨a, xs, ex, q1⟩ := q1
  subst ex
  cases r1 with
  | cons r rr =>
    cases rr
    cases r
    have fresh2 : ∀ b, b ∈ [s1.heap.objs.size + 1, s1.heap.objs.size] → FpOk X pins H1 b := fun b hb => by
      have e' : b = s1.heap.objs.size + 1 ∨ b = s1.heap.objs.size := by simpa using hb
      have hle : s1.heap.objs.size ≤ b := by
        rcases e' with z | z
        · rw [z]; exact Nat.le_add_right _ _
        · rw [z]; exact Nat.le_refl _
      exact I1.fpOk hle (I1.hok.fresh hle)
    rcases q1 with ⟨hq, q⟩ | ⟨hq, q⟩
    · obtain ⟨its, rv, p', hz⟩ := I1.list hq
      refine call_enumerate_list p'.isList fun h' he hit hsz hk => wpAny_pyIter_enum he ?_
      have I2 : Inv X pins σ H1 { s1 with heap := h' } := I1.kept (t' := s1.toks) hk
      exact ⟨s1.heap.objs.size + 1, [s1.heap.objs.size + 1, s1.heap.objs.size], _, _, H1, rfl, I2, turn_enum a (s1.heap.objs.size + 1) s1.heap.objs.size, ⟨⟨.none, he⟩, hit, Nat.succ_ne_self _⟩, fresh2, q⟩
    · obtain ⟨its, rv, p', hz⟩ := I1.tuple hq
      have hlt : a < s1.heap.objs.size := by obtain ⟨o, ho, _⟩ := id p'; exact Heap.lt_size ho
      refine call_enum_tup (show s1.heap.IsTuple a its.toArray from p') fun h' he hit hsz hk => wpAny_pyIter_enum he ?_
      have I2 : Inv X pins σ H1 { s1 with heap := h' } := I1.kept (t' := s1.toks) hk
      exact ⟨s1.heap.objs.size + 1, [s1.heap.objs.size + 1, s1.heap.objs.size], _, _, H1, rfl, I2, turn_enumT a (s1.heap.objs.size + 1) s1.heap.objs.size, ⟨⟨.none, he⟩, hit, Nat.succ_ne_self _, Nat.ne_of_lt hlt, Nat.ne_of_lt (Nat.lt_succ_of_lt hlt)⟩, fresh2, q⟩
section
variable {K : PySem.W.Frag} {G B : Hp} {a b : Addr} {xs ys : List V} {l l2 : List D}
theorem wb_enumT (e : ∀ H, Ex B H → SqT K H a xs) (h : IsDs K G xs l) : WalkB K G B (IteT K a) (enumD l) := by
  have hl := h.length
  have el : (enumD l).length = xs.length := by simp [enumD, hl]
  refine ⟨fun i H hi eb => ⟨xs, xs[i]'(by omega), e H eb, by simp [show i < xs.length by omega]⟩, fun H eb => by rw [el]; exact ⟨xs, e H eb, Nat.le_refl _⟩, fun i G2 H x H' d ed eg ex eb y => ?_⟩
  obtain ⟨T, x2, rfl, n, eh, h2⟩ := y
  have h2 := h2 xs (e H eb)
  obtain ⟨d2, g1, g2⟩ := h.getV h2
  have e2 : (enumD l)[i]? = some (.tup [.int (i : Nat), d2]) := by
    have hi : i < xs.length := by
      have := List.getElem?_eq_some_iff.mp h2
      obtain ⟨k, _⟩ := this
      omega
    have z : ((List.range l.length).zip l)[i]? = some (i, d2) := List.getElem?_zip_eq_some.mpr ⟨List.getElem?_range (by omega), g1⟩
    simp only [enumD, List.getElem?_map, z, Option.map_some]
  rw [e2] at ed; cases ed
  exact pair_new ex n eh (.int _) (g2.mono eg)
end
section
variable {X : Cx} {W : WX} {e e2 : Expr} {fa : FA} {p pos tpos : Pos} {elts : List Expr} {kk : Nat}
theorem IsDs.one {K : PySem.W.Frag} {G : Hp} {vs : List V} {d : D} (h : IsDs K G vs [d]) : ∃ v, vs = [v] ∧ IsD K G v d := by
  cases h with
  | cons h t => cases t; exact ⟨_, rfl, h⟩
theorem IsDs.two {K : PySem.W.Frag} {G : Hp} {vs : List V} {d d2 : D} (h : IsDs K G vs [d, d2]) : ∃ v w, vs = [v, w] ∧ IsD K G v d ∧ IsD K G w d2 := by
  cases h with
  | cons h t =>
    cases t with
    | cons h2 t => cases t; exact ⟨_, _, rfl, h, h2⟩
theorem IsD.sqt {K : PySem.W.Frag} {G : Hp} {v : V} {l : List D} (h : IsD K G v (.tup l)) : ∃ a xs, v = .ref a ∧ SqT K G a xs ∧ IsDs K G xs l := by
  cases h with
  | tup h hs => exact ⟨_, _, rfl, SqT.of h, hs⟩
theorem IsD.sql {K : PySem.W.Frag} {G : Hp} {v : V} {d : D} {l : List D} (h : IsD K G v d) (e : d = .lst l ∨ d = .scr l) : ∃ a xs, v = .ref a ∧ SqL K G a xs ∧ IsDs K G xs l := by
  rcases e with rfl | rfl
  · cases h with
    | lst h hs => exact ⟨_, _, rfl, SqL.of h, hs⟩
  · cases h with
    | scr h hs => exact ⟨_, _, rfl, h, hs⟩
def enD2 : List D → Option (List D)
  | [.lst l] => some (enumD l)
  | [.scr l] => some (enumD l)
  | [.tup l] => some (enumD l)
  | _ => none
def iEnA (f : FA) : FI := fun ρ => (f ρ).bnd fun ds => toRs (enD2 ds)
theorem it_enum (hg : Gl X "enumerate") (hm : X.mg "enumerate" = none) (ha : EA X W [e] fa) (hs : starEach [e] X.env = [(false, eval e X.env)] := by rfl) : II X W (.Tuple elts kk tpos) (.Call (.Name "enumerate" p) [e] [] pos) (iEnA fa) :=
  PIimp (pi_enumA hg hm ha hs) fun σ H R q => by
    rcases tI_case (υ := List V) (R := RA X.K) q with ⟨ρ, G, fp, ds, l, c, z, y, w⟩ | n
    · refine tG_ok c z fun v G1 H1 f g => ?_
      have r := g.rep.2
      have lcase : ∀ {d : D} {l1 : List D}, IsDs X.K G1 v [d] → (d = .lst l1 ∨ d = .scr l1) → l = enumD l1 → ∃ a xs, v = [.ref a] ∧ ((SqL X.K H1 a xs ∧ R (Ite X.K a) H1) ∨ (SqT X.K H1 a xs ∧ R (IteT X.K a) H1)) := fun r ed el => by
        obtain ⟨v0, rfl, r0⟩ := r.one
        obtain ⟨a, xs, rfl, h1, h3⟩ := r0.sql ed
        subst el
        exact ⟨a, xs, rfl, .inl ⟨sql_mono g.x h1, w _ _ _ g.gr g.eh g.x (wb_enum (B := G1) (fun H' e => sql_mono e h1) h3).toD⟩⟩
      unfold enD2 at y
      split at y
      · exact lcase r (.inl rfl) (Option.some.inj y).symm
      · exact lcase r (.inr rfl) (Option.some.inj y).symm
      · cases y
        obtain ⟨v0, rfl, r0⟩ := r.one
        obtain ⟨a, xs, rfl, h1, h3⟩ := r0.sqt
        exact ⟨a, xs, rfl, .inr ⟨sqt_mono g.x h1, w _ _ _ g.gr g.eh g.x (wb_enumT (B := G1) (fun H' e => sqt_mono e h1) h3).toD⟩⟩
      · cases y
    · exact n _
def sqD : D → Option (Bool × List D)
  | .lst l => some (true, l)
  | .scr l => some (true, l)
  | .tup l => some (false, l)
  | _ => none
theorem IsD.sqA {K : PySem.W.Frag} {G : Hp} {v : V} {d : D} {k : Bool} {l : List D} (h : IsD K G v d) (e : sqD d = some (k, l)) : ∃ a xs, v = .ref a ∧ SqA K G k a xs ∧ IsDs K G xs l := by
  cases h with
  | lst h hs => cases e; exact ⟨_, _, rfl, SqL.of h, hs⟩
  | scr h hs => cases e; exact ⟨_, _, rfl, h, hs⟩
  | tup h hs => cases e; exact ⟨_, _, rfl, SqT.of h, hs⟩
  | _ => cases e
def zpD2 : List D → Option (List D)
  | [.tup l, .tup l2] => some (zipD l l2)
  | [.lst l, .lst l2] => some (zipD l l2)
  | [.lst l, .scr l2] => some (zipD l l2)
  | [.scr l, .lst l2] => some (zipD l l2)
  | [.scr l, .scr l2] => some (zipD l l2)
  | [.tup l, .lst l2] => some (zipD l l2)
  | [.lst l, .tup l2] => some (zipD l l2)
  | [.tup l, .scr l2] => some (zipD l l2)
  | [.scr l, .tup l2] => some (zipD l l2)
  | _ => none
def iZpA (f : FA) : FI := fun ρ => (f ρ).bnd fun ds => toRs (zpD2 ds)
theorem it_zip (hg : Gl X "zip") (hm : X.mg "zip" = none) (ha : EA X W [e, e2] fa) (hs : starEach [e, e2] X.env = (false, eval e X.env) :: starEach [e2] X.env := by rfl) (hpl : (backTo pos (starEach [e2] X.env)).any (·.1) = false := by rfl) : II X W (.Tuple elts kk tpos) (.Call (.Name "zip" p) [e, e2] [] pos) (iZpA fa) :=
  PIimp (pi_zipM hg hm ha hs hpl) fun σ H R q => by
    rcases tI_case (υ := List V) (R := RA X.K) q with ⟨ρ, G, fp, ds, l, c, z, y, w⟩ | n
    · refine tG_ok c z fun v G1 H1 f g => ?_
      have r := g.rep.2
      have go : ∀ {d d2 : D} {k1 k2 : Bool} {l1 l2 : List D}, IsDs X.K G1 v [d, d2] → sqD d = some (k1, l1) → sqD d2 = some (k2, l2) → some (zipD l1 l2) = some l → ∃ k1 k2 a b xs ys, v = [.ref a, .ref b] ∧ SqA X.K H1 k1 a xs ∧ SqA X.K H1 k2 b ys ∧ R (ItzM X.K k1 k2 a b) H1 := fun r ed ed2 el => by
        obtain ⟨v0, v1, rfl, r0, r2⟩ := r.two
        obtain ⟨a, xs, rfl, h1, h3⟩ := r0.sqA ed
        obtain ⟨b, ys, rfl, k1, k3⟩ := r2.sqA ed2
        cases el
        exact ⟨_, _, a, b, xs, ys, rfl, sqA_mono g.x h1, sqA_mono g.x k1, w _ _ _ g.gr g.eh g.x (wb_zipM (B := G1) (fun H' e => sqA_mono e h1) (fun H' e => sqA_mono e k1) h3 k3).toD⟩
      unfold zpD2 at y
      split at y
      all_goals first | exact go r rfl rfl y | cases y
    · exact n _
theorem it_rev (hg : Gl X "reversed") (hm : X.mg "reversed" = none) {fe : FE} {tg : Expr} (ha : EE X W e fe) (hs : starEach [e] X.env = (false, eval e X.env) :: starEach [] X.env := by rfl) : II X W tg (.Call (.Name "reversed" p) [e] [] pos) (iRevD (dE fe)) :=
  PIimp (RT.pi_revA hg hm (to_d ha) hs) fun σ H R q => by
    rcases tI_case (υ := V) (R := RD X.K) q with ⟨ρ, G, fp, d, l, c, z, y, w⟩ | n
    · refine tG_ok c z fun v G1 H1 f g => ?_
      have r := g.rep.2
      have lcase : ∀ {l1 : List D}, (d = .lst l1 ∨ d = .scr l1) → l = l1.reverse → ∃ (a : Addr) (xs : List V), v = .ref a ∧ ((SqL X.K H1 a xs ∧ R (Itv X.K a xs.length) H1) ∨ (SqT X.K H1 a xs ∧ R (RT.ItvT X.K a xs.length) H1)) := fun ed el => by
        obtain ⟨a, xs, rfl, h1, h3⟩ := r.sql ed
        subst el
        exact ⟨a, xs, rfl, .inl ⟨sql_mono g.x h1, w _ _ _ g.gr g.eh g.x (wb_revL (B := G1) (fun H' e => sql_mono e h1) h3).toD⟩⟩
      unfold revD at y
      split at y
      · exact lcase (.inl rfl) (Option.some.inj y).symm
      · exact lcase (.inr rfl) (Option.some.inj y).symm
      · cases y
        obtain ⟨a, xs, rfl, h1, h3⟩ := r.sqt
        exact ⟨a, xs, rfl, .inr ⟨sqt_mono g.x h1, w _ _ _ g.gr g.eh g.x (wb_revT (B := G1) (fun H' e => sqt_mono e h1) h3).toD⟩⟩
      · cases y
    · exact n _
end
end FL
namespace SrtO
open PySem PyProof.Rows Srt
section
variable {prog : Program} {w : World} {A : Around} {E : Value → Shared → Prop} {s : Shared}
theorem collect_tup {l : Addr} {vs : List Value} {Q : List Value → Shared → Prop} (hl : s.heap.IsTuple l vs.toArray)
    (h : Q vs { s with heap := (s.heap.push (seqObj "list" #[] 0)).update s.heap.objs.size (Obj.mapSeq (· ++ vs.toArray)) }) (hsz : vs.length ≤ sizeLine := by size_fits) :
    wpAny (model prog w) A (collect (.ref l)) Q E s := by
  obtain ⟨o, ho, hc, n, hd⟩ := id hl
  unfold collect
  refine wpAny_bind (wpAny_runValue (codeAny_builtin entry_proto_collect' ?_))
  show wpAny _ _ (do again (.builtin "list.__iadd__" ⟨[← newList [], .ref l], []⟩)) _ _ s
  refine wpAny_bind (wpAny_newList (wpAny_pure ⟨Code.quiet_builtin _ (by decide +kernel), codeAny_builtin entry_list_iadd' ?_⟩))
  show wpAny _ _ (Builtin.List.listExtendWith (.ref s.heap.objs.size) (.ref l) (.ref s.heap.objs.size)) _ _ { s with heap := s.heap.push (seqObj "list" #[] 0) }
  unfold Builtin.List.listExtendWith
  have ho' : (s.heap.push (seqObj "list" #[] 0)).get? l = some o := Heap.get?_push_of_some _ ho
  refine wpAny_bind (wpAny_typeOf (T := "tuple") ⟨o, ho', hc⟩ ?_)
  have ht : (Value.type "tuple" == Value.type "tuple") = true := by rfl
  rw [if_pos (by rw [ht]; simp)]
  refine wpAny_bind (listItems_at ho' hd ?_)
  refine wpAny_bind (listItems_at (xs := #[]) (n := 0) (Heap.get?_push_size _ rfl) rfl ?_)
  rw [if_neg (by simp)]
  refine wpAny_bind (listUpdate_at (xs := #[]) (n := 0) (Heap.get?_push_size _ rfl) rfl ?_ (Nat.zero_le _) (by show (#[] ++ vs.toArray).size ≤ sizeLine + 1; simp only [Array.size_append, List.size_toArray, List.length_nil]; omega))
  refine wpAny_pure ?_
  show wpAny (model prog w) A (do
      let o ← load s.heap.objs.size
      match o.data with
      | .seq xs _ => pure xs.toList
      | _ => unsupported "internal:collect") Q E { s with heap := (s.heap.push (seqObj "list" #[] 0)).update s.heap.objs.size (Obj.mapSeq (· ++ vs.toArray)) }
  refine wpAny_bind (wpAny_load (get?_update_seq (Heap.get?_push_size _ rfl) _) ?_)
  show wpAny _ _ (pure ((#[] : Array Value) ++ vs.toArray).toList) Q E _
  rw [show ((#[] : Array Value) ++ vs.toArray).toList = vs by simp]
  exact wpAny_pure h
theorem sorted_ordT {l : Addr} {vs : List Value} {ltv : Value → Value → Bool} {Q : Value → Shared → Prop} (O : Swo ltv) (hl : s.heap.IsTuple l vs.toArray) (hz : vs.length ≤ sizeLine)
    (hS : 2 ≤ vs.length → ∀ (h₁ : Heap) (a : Addr), h₁.get? a = some (seqObj "list" vs.toArray 0) → (∀ b o, s.heap.get? b = some o → b ≠ a ∧ h₁.get? b = some o) → SortableO prog w A.in1.in1 { s with heap := h₁ } a vs ltv)
    (h : ∀ out : List Value, Srtd ltv out → Stb ltv out vs → Q (.ref (s.heap.objs.size + 1)) { s with heap := sortedAll s.heap vs out.toArray }) :
    wpAny (model prog w) A (call (.builtin "sorted") [.ref l]) Q E s := by
  refine Calls.call_function_entry kind_sorted plain_sorted entry_sorted (args_sorted1 _) ?_
  unfold Builtin.«sorted»
  refine wpAny_bind (m := checkCount "sorted" 1 1 _) (wpAny_pure ?_)
  refine wpAny_bind (collect_tup hl ?_ hz)
  refine wpAny_bind (wpAny_newList ?_ hz)
  have hsz : ((s.heap.push (seqObj "list" #[] 0)).update s.heap.objs.size (Obj.mapSeq (· ++ vs.toArray))).objs.size = s.heap.objs.size + 1 := by
    rw [Heap.size_update, size_push']
  have hoL : (((s.heap.push (seqObj "list" #[] 0)).update s.heap.objs.size (Obj.mapSeq (· ++ vs.toArray))).push (seqObj "list" vs.toArray 0)).get? (s.heap.objs.size + 1) = some (seqObj "list" vs.toArray 0) := by
    rw [← hsz]; exact Heap.get?_push_size _ rfl
  have keep : ∀ b o, s.heap.get? b = some o → b ≠ s.heap.objs.size + 1 ∧ (((s.heap.push (seqObj "list" #[] 0)).update s.heap.objs.size (Obj.mapSeq (· ++ vs.toArray))).push (seqObj "list" vs.toArray 0)).get? b = some o := fun b o q => by
    have hlt : b < s.heap.objs.size := Heap.lt_size q
    refine ⟨Nat.ne_of_lt (Nat.lt_succ_of_lt hlt), Heap.get?_push_of_some _ ?_⟩
    rw [Heap.get?_update_ne _ _ _ _ (Nat.ne_of_lt hlt)]
    exact Heap.get?_push_of_some _ q
  show wpAny _ _ _ _ _ { s with heap := ((s.heap.push (seqObj "list" #[] 0)).update s.heap.objs.size (Obj.mapSeq (· ++ vs.toArray))).push (seqObj "list" vs.toArray 0) }
  rw [hsz]
  refine wpAny_bind (wpAny_holding (wpAny_call_entry slot_list_sort ⟨_, hoL, rfl⟩ entry_list_sort (list_sort_ord O hoL hz (fun h2 => hS h2 _ _ hoL keep) fun out hs hb => ⟨_, rfl, ?_⟩) (args_list_sort _)))
  exact wpAny_pure ⟨_, rfl, h out hs hb⟩
end
end SrtO
namespace FL
open PySem L2 PyProof.Rows
def rSortedA (K : PySem.W.Frag) : List V → Hp → VK → Prop := fun vs H Q => ∃ (a : Addr) (ns : List Int), vs = [V.ref a] ∧ (SqL K H a (ns.map V.int) ∨ SqT K H a (ns.map V.int)) ∧
  ∀ (ns' : List Int) (p : Addr), ns'.Perm ns → ns'.Pairwise (· ≤ ·) → H p = none → Q (.ref p) (upd H p (.lst (ns'.map V.int)))
section
variable {X : Cx}
theorem cr_sortedT : CallR X (.builtin "sorted") (fun vs H Q => ∃ (a : Addr) (ns : List Int), vs = [V.ref a] ∧ SqT X.K H a (ns.map V.int) ∧
    ∀ (ns' : List Int) (p : Addr), ns'.Perm ns → ns'.Pairwise (· ≤ ·) → H p = none → Q (.ref p) (upd H p (.lst (ns'.map V.int)))) := by
  intro pins s σ H vs us Q I r h
  obtain ⟨a, ns, rfl, hs, q⟩ := h
  obtain ⟨its, rv, hl, hz⟩ := I.tuple hs
  rw [Vals.ref1 r]
  have hi := rv.ints
  refine SrtO.sorted_ordT SrtO.swo_int (show s.heap.IsTuple a its.toArray from hl) (by rw [← rv.length]; exact hz) (fun h2 h₁ a' _ _ => SrtO.ints_sortable hi h2) fun out h1 h2 => ?_
  obtain ⟨k1, k2, k3⟩ := SrtO.ints_out hi h1 h2
  obtain ⟨ep, he'⟩ := PyProof.Rows.sortedAll_at s.heap its out.toArray
  have hlen : ((out.map SrtO.iv).map V.int).length ≤ sizeLine := by
    rw [List.length_map, k2.length_eq]
    rw [List.length_map] at hz
    exact hz
  exact ⟨.ref _, upd H (s.heap.objs.size + 1) (.lst ((out.map SrtO.iv).map V.int)), I.laid (t' := s.toks) (fun _ _ => PyProof.Rows.sortedAll_old) (Nat.le_succ _) ⟨hlen, out, ep, vals_of_ints k1, he'⟩, rfl, q _ _ k2 k3 (I.hok.fresh (Nat.le_succ _))⟩
theorem cr_sortedA : CallR X (.builtin "sorted") (rSortedA X.K) := by
  intro pins s σ H vs us Q I r h
  obtain ⟨a, ns, e, hs, q⟩ := h
  rcases hs with hs | hs
  · exact cr_sortedI pins s σ H vs us Q I r ⟨a, ns, e, hs, q⟩
  · exact cr_sortedT pins s σ H vs us Q I r ⟨a, ns, e, hs, q⟩
end
def insI (x : Int) : List Int → List Int
  | [] => [x]
  | y :: l => if x ≤ y then x :: y :: l else y :: insI x l
def sortI : List Int → List Int
  | [] => []
  | x :: l => insI x (sortI l)
theorem insI_perm (x : Int) : ∀ l, (insI x l).Perm (x :: l)
  | [] => List.Perm.refl _
  | y :: l => by
    unfold insI
    by_cases h : x ≤ y
    · rw [if_pos h]
    · rw [if_neg h]
      exact ((insI_perm x l).cons y).trans (List.Perm.swap x y l)
theorem sortI_perm : ∀ l, (sortI l).Perm l
  | [] => List.Perm.refl _
  | x :: l => (insI_perm x (sortI l)).trans ((sortI_perm l).cons x)
theorem insI_sorted (x : Int) : ∀ {l}, l.Pairwise (· ≤ ·) → (insI x l).Pairwise (· ≤ ·)
  | [], _ => List.pairwise_singleton _ _
  | y :: l, h => by
    unfold insI
    rw [List.pairwise_cons] at h
    by_cases e : x ≤ y
    · rw [if_pos e]
      refine List.pairwise_cons.mpr ⟨fun z hz => ?_, List.pairwise_cons.mpr h⟩
      rcases List.mem_cons.mp hz with rfl | hz
      · exact e
      · exact Int.le_trans e (h.1 z hz)
    · rw [if_neg e]
      refine List.pairwise_cons.mpr ⟨fun z hz => ?_, insI_sorted x h.2⟩
      rcases List.mem_cons.mp ((insI_perm x l).mem_iff.mp hz) with rfl | hz
      · omega
      · exact h.1 z hz
theorem sortI_sorted : ∀ l, (sortI l).Pairwise (· ≤ ·)
  | [] => List.Pairwise.nil
  | x :: l => insI_sorted x (sortI_sorted l)
theorem sorted_uniq : ∀ {l m : List Int}, l.Pairwise (· ≤ ·) → m.Pairwise (· ≤ ·) → l.Perm m → l = m
  | [], m, _, _, h => (List.Perm.nil_eq h)
  | x :: l, [], _, _, h => absurd h.length_eq (by simp)
  | x :: l, y :: m, hl, hm, h => by
    have e : x = y := by
      have h1 : x ∈ y :: m := h.mem_iff.mp List.mem_cons_self
      have h2 : y ∈ x :: l := h.mem_iff.mpr List.mem_cons_self
      rcases List.mem_cons.mp h1 with e | h1
      · exact e
      rcases List.mem_cons.mp h2 with e | h2
      · exact e.symm
      have a := (List.pairwise_cons.mp hm).1 x h1
      have b := (List.pairwise_cons.mp hl).1 y h2
      omega
    subst e
    rw [sorted_uniq (List.pairwise_cons.mp hl).2 (List.pairwise_cons.mp hm).2 h.cons_inv]
def iOfs : D → Option (List Int)
  | .lst l => intsOf l
  | .scr l => intsOf l
  | .tup l => intsOf l
  | _ => none
def dSorted : List D → Rs O
  | [d] => match iOfs d with
    | some ns => .ok (.node .lst (((sortI ns).map D.int).map .dat))
    | none => .bad
  | _ => .bad
def dInt : List D → Rs O
  | [.int i] => .ok (.dat (.int i))
  | [.bl b] => .ok (.dat (.int (if b then 1 else 0)))
  | _ => .bad
section
variable {X : Cx} {K : PySem.W.Frag}
theorem RdV.iOfs {G H : Hp} {v : V} {d : D} {ns : List Int} (x : Ex G H) (h : RdV K G H v d) (e : FL.iOfs d = some ns) : ∃ a, v = .ref a ∧ (SqL K H a (ns.map V.int) ∨ SqT K H a (ns.map V.int)) := by
  cases d with
  | lst l =>
    obtain ⟨a, xs, rfl, h1, h2⟩ := h.seql x (.inl rfl)
    rw [← intsOf_is h2 e]
    exact ⟨a, rfl, .inl h1⟩
  | scr l =>
    obtain ⟨a, xs, rfl, h1, h2⟩ := h.seql x (.inr rfl)
    rw [← intsOf_is h2 e]
    exact ⟨a, rfl, .inl h1⟩
  | tup l =>
    obtain ⟨a, xs, rfl, h1, _, h2⟩ := h.tup x
    rw [← intsOf_is h2 e]
    exact ⟨a, rfl, .inr h1⟩
  | _ => cases e
theorem isDs_int {G : Hp} : ∀ l : List Int, IsDs K G (l.map V.int) (l.map D.int)
  | [] => .nil
  | i :: l => .cons (.int i) (isDs_int l)
theorem RdVs.one {G H : Hp} {vs : List V} {d : D} (h : RdVs K G H vs [d]) : ∃ v, vs = [v] ∧ RdV K G H v d := by
  cases h with
  | cons h t => cases t; exact ⟨_, rfl, h⟩
theorem sorted_F : CallF K (rSortedA K) dSorted := fun {mg W G H σ Q vs ds} ex h q => by
  unfold dSorted at q
  split at q
  · next d =>
    split at q
    · next ns hn =>
      obtain ⟨v, rfl, r⟩ := h.one
      obtain ⟨a, rfl, hs⟩ := r.iOfs ex hn
      refine ⟨a, ns, rfl, hs, fun ns' p hp hs2 hf => ?_⟩
      have e : ns' = sortI ns := sorted_uniq hs2 (sortI_sorted ns) (hp.trans (sortI_perm ns).symm)
      subst e
      exact Post.nl q ex (isDs_int (sortI ns)) hf
    · exact q.elim
  · exact q.elim
def rIntA : List V → Hp → VK → Prop := fun xs H Q => (∃ i, xs = [.int i] ∧ Q (.int i) H) ∨ ∃ k, xs = [.bl k] ∧ Q (.int (if k then 1 else 0)) H
theorem call_intA : CallR X (.type "int") rIntA := call_int1
theorem int_F : CallF K rIntA dInt := fun {mg W G H σ Q vs ds} ex h q => by
  unfold dInt at q
  split at q
  · next i =>
    obtain ⟨v, rfl, r⟩ := h.one
    obtain rfl := r.int
    exact .inl ⟨i, rfl, q.dt ex (.int i)⟩
  · next b =>
    obtain ⟨v, rfl, r⟩ := h.one
    obtain rfl := r.bl
    exact .inr ⟨b, rfl, q.dt ex (.int _)⟩
  · exact q.elim
end
end FL
namespace FL
open PySem L2
theorem notT_lst (xs : List V) : NotT (.lst xs) := ⟨fun _ z => (by cases z), fun _ _ z => (by cases z)⟩
def wipeE (ρ : Env) : List Nat → Env
  | [] => ρ
  | v :: vs => (wipeE ρ vs).set v none
section
variable {K : PySem.W.Frag} {G H : Hp} {σ σ2 : L2.St} {ρ : Env} {fp : List Addr}
theorem Conf.drop (c : Conf K G H σ ρ fp) (i : Nat) : ∃ fp', (∀ a ∈ fp', a ∈ fp) ∧ Conf K G H (σ.set i none) (ρ.set i none) fp' := by
  obtain ⟨pre, f1, post, e, q⟩ := c.rep.drop i none
  have hp : ∀ a ∈ pre ++ post, a ∈ fp := fun a h => by rw [e]; exact mem_mid h
  have nd := c.nd
  rw [e] at nd
  exact ⟨pre ++ post, hp, c.ex, q, (nd_mid nd).1, fun a h => c.fr a (hp a h)⟩
theorem Conf.wipe (c : Conf K G H σ ρ fp) : ∀ vs : List Nat, ∃ fp', (∀ a ∈ fp', a ∈ fp) ∧ Conf K G H (L2.wipe σ vs) (wipeE ρ vs) fp'
  | [] => ⟨fp, fun _ h => h, c⟩
  | v :: vs => by
    obtain ⟨f1, s1, c1⟩ := Conf.wipe c vs
    obtain ⟨f2, s2, c2⟩ := c1.drop v
    exact ⟨f2, fun a h => s1 a (s2 a h), c2⟩
theorem wipe_in {i : Nat} : ∀ {vs : List Nat}, i ∈ vs → (L2.wipe σ vs)[i]? = if i < σ.length then some none else none
  | [], h => by cases h
  | v :: vs, h => by
    unfold L2.wipe
    by_cases e : v = i
    · subst e
      rw [List.getElem?_set]
      simp [wipe_length]
    · rw [List.getElem?_set_ne e]
      exact wipe_in ((List.mem_cons.mp h).resolve_left fun z => e z.symm)
theorem wipe_eq {vs : List Nat} (hl : σ2.length = σ.length) (h : ∀ i, i ∉ vs → σ2[i]? = σ[i]?) : L2.wipe σ2 vs = L2.wipe σ vs := by
  refine List.ext_getElem? fun i => ?_
  by_cases hi : i ∈ vs
  · rw [wipe_in hi, wipe_in hi, hl]
  · rw [wipe_out hi, wipe_out hi, h i hi]
theorem wipe_wipe (vs : List Nat) : L2.wipe (L2.wipe σ vs) vs = L2.wipe σ vs := wipe_eq (wipe_length σ vs) fun i hi => wipe_out hi
end
def compL (b : FG) (g : FB) (f : FE) (ρ : Env) : List D → Option (List O)
  | [] => some []
  | d :: l => match b d ρ with
    | none => none
    | some ρ1 => match g ρ1 with
      | .ok true => (match f ρ1 with
        | .ok (.tmp o) => (compL b g f ρ l).map fun os => o :: os
        | _ => none)
      | .ok false => compL b g f ρ l
      | _ => none
def bYes : FB := fun _ => .ok true
def lcO (r : Option (List O)) : Rs Opd := match r with
  | some os => if os.length ≤ sizeLine then .ok (.tmp (.node .lst os)) else .bad
  | none => .bad
def eLc (fi : FI) (b : FG) (g : FB) (f : FE) (vs : List Nat) : FE := fun ρ => (fi ρ).bnd fun l => lcO (compL b g f (wipeE ρ vs) l)
abbrev Wn : WX := fun _ _ _ _ => False
theorem reps_snoc {K : PySem.W.Frag} {G H : Hp} : ∀ {vs : List V} {os : List O} {f f2 : List Addr} {v : V} {o : O}, Reps K G H vs os f → Rep K G H v o f2 → Reps K G H (vs ++ [v]) (os ++ [o]) (f ++ f2)
  | _, _, _, f2, v, o, .nil, r => by simpa using Reps.cons r .nil
  | _, _, _, f2, v, o, .cons h t, r => by
    have z := Reps.cons h (reps_snoc t r)
    simpa [List.append_assoc] using z
theorem Reps.length {K : PySem.W.Frag} {G H : Hp} : ∀ {vs : List V} {os : List O} {f : List Addr}, Reps K G H vs os f → vs.length = os.length
  | _, _, _, .nil => rfl
  | _, _, _, .cons _ t => by simp [Reps.length t]
def others (n : Nat) (vs : List Nat) : List Nat := (List.range n).filter fun i => decide (i ∉ vs)
section
variable {X : Cx} {W : WX} {elt tg iter : Expr} {ifs : List Expr} {scope : Scope} {own : List (Str × Nat)} {pos spos : Pos} {fi : FI} {b : FG} {g : FB} {fe : FE} {tt : TT}
def TtOk (K : PySem.W.Frag) (mg : Str → Option Value) (g : FB) (tt : TT) : Prop := ∀ {σ : L2.St} {H : Hp} {Q : Bool → Hp → Prop}, tB (tG K mg Wn RB g) σ H Q → tt σ H Q
theorem ttYes {K : PySem.W.Frag} {mg : Str → Option Value} : TtOk K mg bYes tYes := fun {σ H Q} ⟨ρ, G, fp, c, q⟩ => bt_step q c.ex
theorem ttOne {K : PySem.W.Frag} {mg : Str → Option Value} : TtOk K mg g (tB (tG K mg Wn RB g)) := fun h => h
theorem lc_read {N : Nat} {Q : VK} {σ : L2.St} {H : Hp} (hN : N = σ.length) (ht : TtOk X.K X.mg g tt) (h : tG X.K X.mg W (RO X.K) (eLc fi b g fe (own.map (·.2))) σ H Q) :
    tLc (tIr X.K X.mg W fi) (tGt X.K (others N (own.map (·.2))) b) tt (tG X.K X.mg Wn (RO X.K) fe) (own.map (·.2)) σ H Q := by
  generalize hvs : own.map (·.2) = vs at h ⊢
  obtain ⟨ρ, G, fp, cf, q⟩ := h
  refine ⟨ρ, G, fp, cf, ?_⟩
  unfold eLc at q
  cases z : fi ρ with
  | exc cc fs => rw [z] at q; exact q
  | bad => rw [z] at q; exact q
  | ok l =>
    rw [z] at q
    simp only [Rs.bnd_ok] at q
    intro J G1 H1 gr eh x wk Da hD
    cases y : compL b g fe (wipeE ρ vs) l with
    | none => rw [y] at q; exact q.elim
    | some tot =>
      rw [y] at q
      have q : Post X.K X.mg W (RO X.K) (if tot.length ≤ sizeLine then Rs.ok (Opd.tmp (.node .lst tot)) else .bad) σ G H Q := q
      by_cases hz : tot.length ≤ sizeLine
      · rw [if_pos hz] at q
        obtain ⟨fw, sw, cw⟩ := (cf.grow gr eh x).wipe vs
        have gD : G1 Da = none := L2.Same.free x hD
        refine ⟨fun i m H => m + i = l.length ∧ ∃ G2 f acc os rest, Gr G1 H1 G2 ∧ Ex H1 H ∧ Ex G2 H ∧ G2 Da = none ∧ H Da = some (.lst acc) ∧ Reps X.K G2 H acc os f ∧ f.Nodup ∧ (∀ b ∈ f, G2 b = none ∧ H1 b = none ∧ b ≠ Da) ∧
          compL b g fe (wipeE ρ vs) (l.drop i) = some rest ∧ os ++ rest = tot, ⟨l.length, by simp, G1, [], [], [], tot, Gr.refl, Ex.new hD, x.trans (Ex.new hD), gD, upd_same, .nil, List.nodup_nil, (fun _ z => (by cases z)), by simpa using y, rfl⟩, ?_⟩
        rintro i m H2 ⟨em, G2, f, acc, os, rest, g2, e2, x2, n2, hd, rp, nd, fr, ec, et⟩
        have hl := rp.length
        by_cases hi : i < l.length
        · have ed : l.drop i = l[i] :: l.drop (i + 1) := List.drop_eq_getElem_cons hi
          have gd : l[i]? = some l[i] := List.getElem?_eq_getElem hi
          rw [ed] at ec
          unfold compL at ec
          refine .inr ⟨wk.goes i H2 hi e2, fun H => m - 1 + (i + 1) = l.length ∧ ∃ G2 f acc os rest, Gr G1 H1 G2 ∧ Ex H1 H ∧ Ex G2 H ∧ G2 Da = none ∧ H Da = some (.lst acc) ∧ Reps X.K G2 H acc os f ∧ f.Nodup ∧ (∀ b ∈ f, G2 b = none ∧ H1 b = none ∧ b ≠ Da) ∧
            compL b g fe (wipeE ρ vs) (l.drop (i + 1)) = some rest ∧ os ++ rest = tot, fun H' h => ⟨m - 1, by omega, h⟩, fun v H3 yl => ?_⟩
          obtain ⟨eh3, G3, g3, x3, r3⟩ := wk.yields i G2 H2 v H3 _ gd g2.ex x2 e2 yl
          have n3 : G3 Da = none := g3.old Da _ hd (notT_lst _) n2
          have gr3 : Gr G1 H1 G3 := g2.trans e2 g3
          have cw3 : Conf X.K G3 H3 (L2.wipe σ vs) (wipeE ρ vs) fw := cw.grow gr3 (e2.trans eh3) x3
          cases zb : b l[i] (wipeE ρ vs) with
          | none => rw [zb] at ec; cases ec
          | some ρ1 =>
            rw [zb] at ec
            simp only at ec
            refine ⟨wipeE ρ vs, G3, fw, _, cw3, r3, ρ1, zb, fun σ4 fp4 s4 c4 k4 => ⟨?_, ht ?_⟩⟩
            · rw [wipe_eq (σ := L2.wipe σ vs) k4.1 fun j hj => ?_, wipe_wipe]
              by_cases hjn : j < N
              · exact k4.2 j (by simp [others, hjn, hj])
              · rw [List.getElem?_eq_none (by rw [k4.1, wipe_length]; omega), List.getElem?_eq_none (by rw [wipe_length]; omega)]
            cases zg : g ρ1 with
            | exc cc fs => rw [zg] at ec; cases ec
            | bad => rw [zg] at ec; cases ec
            | ok k =>
              rw [zg] at ec
              refine tG_ok c4 zg fun vb G5 H5 f5 g5 => ⟨k, g5.rep.2, ?_⟩
              have n5 : G5 Da = none := g5.gr.old Da _ (eh3 _ _ hd) (notT_lst _) n3
              have gr5 : Gr G1 H1 G5 := gr3.trans (e2.trans eh3) g5.gr
              have c5 := g5.conf c4
              have hd5 : H5 Da = some (.lst acc) := g5.eh _ _ (eh3 _ _ hd)
              have rp5 : Reps X.K G5 H5 acc os f := rp.mono (g3.ex.trans g5.gr.ex) fun a ha u hu => g5.eh _ _ (eh3 _ _ hu)
              have live : ∀ a ∈ f, ∃ u, H2 a = some u ∧ NotT u := fun a ha => by
                obtain ⟨u, h1, h2⟩ := rp.live a ha
                exact ⟨u, h1, h2⟩
              have fr5 : ∀ b ∈ f, G5 b = none ∧ H1 b = none ∧ b ≠ Da := fun a ha => by
                obtain ⟨u, h1, h2⟩ := live a ha
                exact ⟨g5.gr.old a u (eh3 _ _ h1) h2 (g3.old a u h1 h2 (fr a ha).1), (fr a ha).2⟩
              cases k with
              | false =>
                simp only [Bool.false_eq_true, if_false]
                simp only at ec
                exact ⟨by omega, G5, f, acc, os, rest, gr5, e2.trans (eh3.trans g5.eh), g5.x, n5, hd5, rp5, nd, fr5, ec, et⟩
              | true =>
                simp only [if_true]
                simp only at ec
                cases zf : fe ρ1 with
                | exc cc fs => rw [zf] at ec; cases ec
                | bad => rw [zf] at ec; cases ec
                | ok o =>
                  rw [zf] at ec
                  cases o with
                  | plc _ _ => cases ec
                  | tmp o =>
                    simp only at ec
                    cases zr : compL b g fe (wipeE ρ vs) (l.drop (i + 1)) with
                    | none => rw [zr] at ec; cases ec
                    | some rest' =>
                      rw [zr] at ec
                      simp only [Option.map_some, Option.some.injEq] at ec
                      subst ec
                      refine tG_ok c5 zf fun vy G6 H6 f6 g6 => ?_
                      have r6 : Rep X.K G6 H6 vy o f6 := g6.rep
                      have hd6 : H6 Da = some (.lst acc) := g6.eh _ _ hd5
                      have n6 : G6 Da = none := g6.gr.old Da _ hd5 (notT_lst _) n5
                      have ne6 : ∀ a ∈ f6, a ≠ Da := fun a ha e => by
                        have := (g6.fr a ha).2
                        rw [e, hd5] at this; cases this
                      have nef : ∀ a ∈ f, a ≠ Da := fun a ha => (fr a ha).2.2
                      have e25 : Ex H2 H5 := eh3.trans g5.eh
                      have l1 : acc.length < sizeLine := by
                        have e1 : tot.length = os.length + (rest'.length + 1) := by rw [← et]; simp
                        omega
                      refine ⟨acc, hd6, l1, by omega, G6, f ++ f6, acc ++ [vy], os ++ [o], rest', gr5.trans (e2.trans e25) g6.gr, fun a u hu => ?_, fun a u hu => ?_, n6, upd_same, reps_snoc ?_ ?_, ?_, fun a ha => ?_, rfl, by rw [← et]; simp⟩
                      · rw [upd_ne (ne_of_none hu hD)]
                        exact g6.eh _ _ (e25 _ _ (e2 _ _ hu))
                      · rw [upd_ne (ne_of_none hu n6)]
                        exact g6.x _ _ hu
                      · exact rp5.mono g6.gr.ex fun a ha u hu => by rw [upd_ne (nef a ha)]; exact g6.eh _ _ hu
                      · exact r6.mono (Ex.refl _) fun a ha u hu => by rw [upd_ne (ne6 a ha)]; exact hu
                      · refine nd_join nd g6.nd fun a ha hb => ?_
                        obtain ⟨u, h1, _⟩ := live a ha
                        have := (g6.fr a hb).2
                        rw [e25 _ _ h1] at this; cases this
                      · rcases List.mem_append.mp ha with ha | ha
                        · obtain ⟨u, h1, h2⟩ := live a ha
                          exact ⟨g6.gr.old a u (e25 _ _ h1) h2 (fr5 a ha).1, (fr5 a ha).2⟩
                        · exact ⟨(g6.fr a ha).1, L2.Same.free (e2.trans e25) (g6.fr a ha).2, ne6 a ha⟩
        · have e : i = l.length := by omega
          subst e
          rw [List.drop_length] at ec
          have er : rest = [] := by
            unfold compL at ec
            cases ec; rfl
          subst er
          rw [List.append_nil] at et
          subst et
          refine .inl ⟨wk.stops H2 e2, q (.ref Da) G2 H2 (Da :: f) ⟨gr.trans eh g2, eh.trans e2, x2, .node (t := .lst) hd rfl rp, List.nodup_cons.mpr ⟨fun hm => (fr Da hm).2.2 rfl, nd⟩, fun b hb => ?_⟩⟩
          rcases List.mem_cons.mp hb with rfl | hb
          · exact ⟨n2, L2.Same.free eh hD⟩
          · exact ⟨(fr b hb).1, L2.Same.free eh (fr b hb).2.1⟩
      · rw [if_neg hz] at q; exact q.elim
end
end FL
namespace FL
open PySem L2

inductive RF where
  | ok (o : O) (os : List O)
  | exc (c : Str) (fs : List (Str × D)) (os : List O)
  | bad
def PostF (K : PySem.W.Frag) (mg : Str → Option Value) (r : RF) (vs : List V) (G H : Hp) (fp : List Addr) (Q : VK) (E : XK) : Prop := match r with
  | .ok o os' => ∀ v G' H' f fp', Stp G H fp G' H' (f ++ fp') → Ex G' H' → Rep K G' H' v o f → Reps K G' H' vs os' fp' → (f ++ fp').Nodup → (∀ b ∈ f ++ fp', G' b = none) → Q v H'
  | .exc c fs os' => ∀ cls d G' H' fp', mg c = some cls → Stp G H fp G' H' fp' → Ex G' H' → Reps K G' H' vs os' fp' → fp'.Nodup → (∀ b ∈ fp', G' b = none) → ExF K G' H' d fs → E cls d H'
  | .bad => False
def spF (K : PySem.W.Frag) (mg : Str → Option Value) (n : Nat) (F : List O → RF) : Sp := fun vs H Q E =>
  vs.length = n ∧ ∃ os G fp, Ex G H ∧ Reps K G H vs os fp ∧ fp.Nodup ∧ (∀ a ∈ fp, G a = none) ∧ PostF K mg (F os) vs G H fp Q E
def outs (kp : List Nat) : Nat → List O → Env → Option (List O)
  | _, [], _ => some []
  | j, o :: os, x :: ρ => if j ∈ kp then (match x with
      | some o' => (outs kp (j + 1) os ρ).map (o' :: ·)
      | none => none) else (match o with
      | .dat d => (outs kp (j + 1) os ρ).map (.dat d :: ·)
      | .node _ _ => none
      | .pck _ => none)
  | _, _ :: _, [] => none
def startE (n : Nat) (os : List O) : Env := os.map some ++ List.replicate (n - os.length) none
def endF (kp : List Nat) (os : List O) : RS → RF
  | .ok (.rt o) ρ => (match outs kp 0 os ρ with
    | some os' => .ok o os'
    | none => .bad)
  | .ok .nx ρ => (match outs kp 0 os ρ with
    | some os' => .ok (.dat .non) os'
    | none => .bad)
  | .exc c fs ρ => (match outs kp 0 os ρ with
    | some os' => .exc c fs os'
    | none => .bad)
  | _ => .bad
def runF (kp : List Nat) (N : Nat) (body : FS) : List O → RF := fun os => endF kp os (body (startE N os))
section
variable {K : PySem.W.Frag} {mg : Str → Option Value} {G H G' H' : Hp} {fp fp' : List Addr} {kp : List Nat}
theorem repE_start : ∀ {vs : List V} {os : List O} {fp : List Addr} (n : Nat), Reps K G H vs os fp → RepE K G H (vs.map some ++ List.replicate n none) (os.map some ++ List.replicate n none) fp
  | _, _, _, 0, .nil => .nil
  | _, _, _, n + 1, .nil => by
    have z := repE_start n (.nil : Reps K G H [] [] [])
    simpa [List.replicate_succ] using RepE.no z
  | _, _, _, n, .cons h t => by simpa using RepE.yes h (repE_start n t)
theorem outs_ok : ∀ {vs : List V} {os os' : List O} {fp : List Addr} {σ : L2.St} {ρ : Env} {fp' : List Addr} {j : Nat}, Reps K G H vs os fp → RepE K G' H' σ ρ fp' → Ex G G' → (∀ i, j + i ∈ kp → i < vs.length → σ[i]? = (vs.map some)[i]?) → outs kp j os ρ = some os' →
    ∃ f2, Reps K G' H' vs os' f2 ∧ f2.Sublist fp'
  | _, _, _, _, σ, ρ, fp', j, .nil, r, eg, hk, e => by
    unfold outs at e
    cases e
    exact ⟨[], .nil, List.nil_sublist _⟩
  | _, _, _, _, _, _, _, j, .cons h t, .nil, eg, hk, e => by unfold outs at e; cases e
  | _, _, _, _, _, _, _, j, .cons (v := v) (o := o) (vs := vs) (os := os) h t, .no (x := x) (σ := σ) (ρ := ρ) (f := f) r, eg, hk, e => by
    unfold outs at e
    by_cases hj : j ∈ kp
    · rw [if_pos hj] at e; cases e
    · rw [if_neg hj] at e
      cases h with
      | node _ _ _ => cases e
      | pck _ _ => cases e
      | dat hd =>
        rename_i d
        simp only at e
        cases z : outs kp (j + 1) os ρ with
        | none => rw [z] at e; cases e
        | some os2 =>
          rw [z] at e
          simp only [Option.map_some, Option.some.injEq] at e
          subst e
          obtain ⟨f2, h1, h2⟩ := outs_ok t r eg (fun i hi hl => by
            have := hk (i + 1) (by rwa [show j + (i + 1) = j + 1 + i by omega]) (by simpa using hl)
            simpa using this) z
          exact ⟨f2, by simpa using Reps.cons (.dat (hd.mono eg)) h1, h2⟩
  | _, _, _, _, _, _, _, j, .cons (v := v) (o := o) (vs := vs) (os := os) h t, .yes (v := v') (o := o') (σ := σ) (ρ := ρ) (f := f) (fs := fs) r0 r, eg, hk, e => by
    unfold outs at e
    by_cases hj : j ∈ kp
    · rw [if_pos hj] at e
      simp only at e
      cases z : outs kp (j + 1) os ρ with
      | none => rw [z] at e; cases e
      | some os2 =>
        rw [z] at e
        simp only [Option.map_some, Option.some.injEq] at e
        subst e
        have ev : v' = v := by
          have := hk 0 (by simpa using hj) (by simp)
          simpa using this
        subst ev
        obtain ⟨f2, h1, h2⟩ := outs_ok t r eg (fun i hi hl => by
          have := hk (i + 1) (by rwa [show j + (i + 1) = j + 1 + i by omega]) (by simpa using hl)
          simpa using this) z
        exact ⟨f ++ f2, .cons r0 h1, List.Sublist.append (List.Sublist.refl f) h2⟩
    · rw [if_neg hj] at e
      cases h with
      | node _ _ _ => cases e
      | pck _ _ => cases e
      | dat hd =>
        rename_i d
        simp only at e
        cases z : outs kp (j + 1) os ρ with
        | none => rw [z] at e; cases e
        | some os2 =>
          rw [z] at e
          simp only [Option.map_some, Option.some.injEq] at e
          subst e
          obtain ⟨f2, h1, h2⟩ := outs_ok t r eg (fun i hi hl => by
            have := hk (i + 1) (by rwa [show j + (i + 1) = j + 1 + i by omega]) (by simpa using hl)
            simpa using this) z
          exact ⟨f2, by simpa using Reps.cons (.dat (hd.mono eg)) h1, h2.trans (List.sublist_append_right f fs)⟩
theorem endF_ok {N : List Str} {vs : List V} {os : List O} {body : FS} {Q : VK} {E : XK} (hx : Ex G H) (rp : Reps K G H vs os fp) (nd : fp.Nodup) (fr : ∀ a ∈ fp, G a = none) (hkp : ∀ i ∈ kp, i < vs.length)
    (h : PostF K mg (runF kp N.length body os) vs G H fp Q E) : tS K mg (fun cls d _ H => E cls d H) kp body { nx := fun _ H' => Q .non H', rt := Q } (L2.start N vs) H := by
  have hl := rp.length
  have e1 : startE N.length os = os.map some ++ List.replicate (N.length - vs.length) none := by unfold startE; rw [hl]
  have r0 : RepE K G H (L2.start N vs) (startE N.length os) fp := by
    rw [e1]
    exact repE_start _ rp
  have hst : ∀ {σ' : L2.St}, Keep kp (L2.start N vs) σ' → ∀ i, 0 + i ∈ kp → i < vs.length → σ'[i]? = (vs.map some)[i]? := fun {σ'} k i hi hlt => by
    rw [Nat.zero_add] at hi
    rw [k.2 i hi]
    unfold L2.start
    rw [List.getElem?_append_left (by simpa using hlt)]
  refine ⟨startE N.length os, G, fp, ⟨hx, r0, nd, fr⟩, ?_⟩
  unfold runF at h
  have fin : ∀ {os' : List O} {σ' : L2.St} {ρ' : Env} {G' H' : Hp} {f fp' : List Addr}, Stp G H fp G' H' (f ++ fp') → Conf K G' H' σ' ρ' fp' → Keep kp (L2.start N vs) σ' → (f ++ fp').Nodup → (∀ b ∈ f, G' b = none) → outs kp 0 os ρ' = some os' →
      ∃ f2, Stp G H fp G' H' (f ++ f2) ∧ Reps K G' H' vs os' f2 ∧ (f ++ f2).Nodup ∧ ∀ b ∈ f ++ f2, G' b = none := fun {os' σ' ρ' G' H' f fp'} s c k nd fr e => by
    obtain ⟨f2, h1, h2⟩ := outs_ok rp c.rep s.eg (hst k) e
    have sl : (f ++ f2).Sublist (f ++ fp') := List.Sublist.append (List.Sublist.refl f) h2
    refine ⟨f2, s.sub fun a ha => sl.subset ha, h1, nd.sublist sl, fun b hb => ?_⟩
    rcases List.mem_append.mp hb with hb | hb
    · exact fr b hb
    · exact c.fr b (h2.subset hb)
  cases z : body (startE N.length os) with
  | bad => rw [z] at h; exact h
  | exc c fs ρ' =>
    rw [z] at h
    unfold endF at h
    intro cls d σ' G' H' fp' m s cf k ef
    cases y : outs kp 0 os ρ' with
    | none => simp only [y] at h; exact h.elim
    | some os' =>
      simp only [y] at h
      obtain ⟨f2, s2, r2, n2, fr2⟩ := fin (f := []) (by simpa using s) cf k (by simpa using cf.nd) (fun _ z => by cases z) y
      exact h cls d G' H' f2 m (by simpa using s2) cf.ex r2 (by simpa using n2) (by simpa using fr2) ef
  | ok fl ρ' =>
    rw [z] at h
    cases fl with
    | bk => exact h.elim
    | ct => exact h.elim
    | nx =>
      unfold endF at h
      intro σ' G' H' fp' s cf k
      cases y : outs kp 0 os ρ' with
      | none => simp only [y] at h; exact h.elim
      | some os' =>
        simp only [y] at h
        obtain ⟨f2, s2, r2, n2, fr2⟩ := fin (f := []) (by simpa using s) cf k (by simpa using cf.nd) (fun _ z => by cases z) y
        exact h .non G' H' [] f2 s2 cf.ex (.dat .non) r2 n2 fr2
    | rt o =>
      unfold endF at h
      intro v σ' G' H' f fp' s cf k ro nd' fr'
      cases y : outs kp 0 os ρ' with
      | none => simp only [y] at h; exact h.elim
      | some os' =>
        simp only [y] at h
        obtain ⟨f2, s2, r2, n2, fr2⟩ := fin s cf k nd' fr' y
        exact h v G' H' f f2 s2 cf.ex ro r2 n2 fr2
end

mutual
def clean : D → Bool
  | .tup l => cleans l
  | .lst _ => false
  | .scr _ => false
  | .obj _ _ => false
  | .exn _ _ _ _ => false
  | _ => true
def cleans : List D → Bool
  | [] => true
  | d :: ds => clean d && cleans ds
end
mutual
def cleanO : O → Bool
  | .dat d => clean d
  | .node _ l => cleanOs l
  | .pck l => cleanOs l
def cleanOs : List O → Bool
  | [] => true
  | o :: os => cleanO o && cleanOs os
end
section
variable {K : PySem.W.Frag} {mg : Str → Option Value} {W : WX} {G H G' H' : Hp} {fp fp' f : List Addr} {σ : L2.St} {ρ : Env}
def unf (G : Hp) (f : List Addr) : Hp := fun a => if a ∈ f then none else G a
mutual
theorem IsD.clean (x : Ex G H) (n : ∀ a ∈ f, ∃ u, H a = some u ∧ NotT u) : ∀ {v : V} {d : D}, IsD K G v d → FL.clean d = true → IsD K (unf G f) v d
  | _, _, .non, _ => .non
  | _, _, .bl b, _ => .bl b
  | _, _, .int i, _ => .int i
  | _, _, .str s, _ => .str s
  | _, _, .tup (a := a) (xs := xs) h hs, e => .tup (by
      unfold unf
      by_cases z : a ∈ f
      · obtain ⟨u, h1, h2⟩ := n a z
        rw [x _ _ h] at h1; cases h1
        exact absurd rfl (h2.1 xs)
      · rw [if_neg z]; exact h) (IsDs.clean x n hs (by simpa [FL.clean] using e))
  | _, _, .lst h hs, e => by simp [FL.clean] at e
  | _, _, .scr h hs, e => by simp [FL.clean] at e
  | _, _, .obj h q hs, e => by simp [FL.clean] at e
  | _, _, .exn h q hs, e => by simp [FL.clean] at e
theorem IsDs.clean (x : Ex G H) (n : ∀ a ∈ f, ∃ u, H a = some u ∧ NotT u) : ∀ {v : List V} {d : List D}, IsDs K G v d → FL.cleans d = true → IsDs K (unf G f) v d
  | _, _, .nil, _ => .nil
  | _, _, .cons h t, e => by
    unfold FL.cleans at e
    obtain ⟨e1, e2⟩ := Bool.and_eq_true_iff.mp e
    exact .cons (IsD.clean x n h e1) (IsDs.clean x n t e2)
end
mutual
theorem Rep.clean (x : Ex G H) (n : ∀ a ∈ f, ∃ u, H a = some u ∧ NotT u) : ∀ {v : V} {o : O} {g : List Addr}, Rep K G H v o g → cleanO o = true → Rep K (unf G f) H v o g
  | _, _, _, .dat h, e => .dat (h.clean x n (by simpa [cleanO] using e))
  | _, _, _, .node h q hs, e => .node h q (Reps.clean x n hs (by simpa [cleanO] using e))
  | _, _, _, .pck (a := a) (xs := xs) h hs, e => .pck (by
      unfold unf
      by_cases z : a ∈ f
      · obtain ⟨u, h1, h2⟩ := n a z
        rw [x _ _ h] at h1; cases h1
        exact absurd rfl (h2.1 xs)
      · rw [if_neg z]; exact h) (Reps.clean x n hs (by simpa [cleanO] using e))
theorem Reps.clean (x : Ex G H) (n : ∀ a ∈ f, ∃ u, H a = some u ∧ NotT u) : ∀ {v : List V} {o : List O} {g : List Addr}, Reps K G H v o g → cleanOs o = true → Reps K (unf G f) H v o g
  | _, _, _, .nil, _ => .nil
  | _, _, _, .cons h t, e => by
    unfold cleanOs at e
    obtain ⟨e1, e2⟩ := Bool.and_eq_true_iff.mp e
    exact .cons (Rep.clean x n h e1) (Reps.clean x n t e2)
end
inductive ROs (K : PySem.W.Frag) (G H : Hp) (σ : L2.St) : List V → List Opd → List Addr → Prop
  | nil : ROs K G H σ [] [] []
  | cons {v : V} {o : Opd} {f : List Addr} {vs : List V} {os : List Opd} {fs : List Addr} : RO K G H σ v o f → ROs K G H σ vs os fs → ROs K G H σ (v :: vs) (o :: os) (f ++ fs)
abbrev FOs := Env → Rs (List Opd)
abbrev EOs (X : Cx) (W : WX) (es : List Expr) (f : FOs) : Prop := PA X es (tG X.K X.mg W (ROs X.K) f)
def oNil : FOs := fun _ => .ok []
def oCons (fa : FE) (fr : FOs) : FOs := fun ρ => (fa ρ).bnd fun o => (fr ρ).bnd fun os => .ok (o :: os)
theorem RO.mono {o : Opd} {v : V} (eg : Ex G G') (eh : Ex H H') (r : RO K G H σ v o f) : RO K G' H' σ v o f := by
  cases o with
  | tmp o => exact Rep.mono eg r fun a _ u h => eh a u h
  | plc i p =>
    obtain ⟨e, v0, h0, ha⟩ := r
    exact ⟨e, v0, h0, ha.mono eh⟩
end
section
variable {X : Cx} {W : WX} {e : Expr} {es : List Expr} {fa : FE} {fr : FOs}
theorem eos_nil : EOs X W [] oNil := PAimp pa_nil fun σ H Q ⟨ρ, G, fp, c, q⟩ => q [] G H [] ⟨Gr.refl, Ex.refl _, c.ex, .nil, List.nodup_nil, fun _ z => by cases z⟩
theorem eos_cons (ha : EE X W e fa) (hr : EOs X W es fr) (hs : starEach (e :: es) X.env = (false, eval e X.env) :: starEach es X.env := by rfl) : EOs X W (e :: es) (oCons fa fr) :=
  PAimp (pa_cons ha hr hs) fun σ H Q ⟨ρ, G, fp, c, q⟩ => by
    refine ⟨ρ, G, fp, c, ?_⟩
    unfold oCons at q
    cases z : fa ρ with
    | exc cc fs => rw [z] at q; exact q
    | bad => rw [z] at q; exact q
    | ok o =>
      rw [z] at q
      simp only [Rs.bnd_ok] at q
      intro v G1 H1 f1 g1
      refine ⟨ρ, G1, fp, g1.conf c, ?_⟩
      have q' := Post.step g1.gr g1.eh q
      cases y : fr ρ with
      | exc cc fs => rw [y] at q'; exact q'
      | bad => rw [y] at q; exact q
      | ok os =>
        rw [y] at q
        simp only [Rs.bnd_ok] at q
        intro vs G2 H2 f2 g2
        have fr2 : ∀ b ∈ f1, G2 b = none ∧ H1 b ≠ none := fun b hb => by
          have hfr := g1.fr b hb
          have lv : ∃ u, H1 b = some u ∧ NotT u := by
            cases o with
            | tmp o => exact (show Rep X.K G1 H1 v o f1 from g1.rep).live b hb
            | plc i p =>
              obtain ⟨e, _⟩ := g1.rep
              subst e; cases hb
          obtain ⟨u, h1, h2⟩ := lv
          exact ⟨g2.gr.old b u h1 h2 hfr.1, by rw [h1]; simp⟩
        refine q (v :: vs) G2 H2 (f1 ++ f2) ⟨g1.gr.trans g1.eh g2.gr, g1.eh.trans g2.eh, g2.x, .cons (RO.mono g2.gr.ex g2.eh g1.rep) g2.rep, nd_join g1.nd g2.nd fun b h1 h2 => ?_, fun b hb => ?_⟩
        · exact (fr2 b h1).2 (g2.fr b h2).2
        · rcases List.mem_append.mp hb with hb | hb
          · exact ⟨(fr2 b hb).1, (g1.fr b hb).2⟩
          · exact ⟨(g2.fr b hb).1, L2.Same.free g1.eh (g2.fr b hb).2⟩
end

theorem Holds.ne_xd {t : Tag} {xs : List V} {ho : HO} (h : Holds t xs ho) (fs : List (Str × V)) : ho ≠ .xd fs := fun z => by
  subst z
  cases t with
  | lst => cases h
  | dct ks => obtain ⟨_, h⟩ := h; cases h
  | dcT ks => obtain ⟨_, h⟩ := h; cases h
  | ins C ns => obtain ⟨_, _, h⟩ := h; cases h
section
variable {K : PySem.W.Frag} {G H : Hp}
mutual
theorem Rep.nxd : ∀ {v : V} {o : O} {f : List Addr}, Rep K G H v o f → ∀ a ∈ f, ∃ u, H a = some u ∧ ∀ fs, u ≠ .xd fs
  | _, _, _, .dat h, a, ha => by cases ha
  | _, _, _, .node h q hs, a, ha => by
    rcases List.mem_cons.mp ha with rfl | ha
    · exact ⟨_, h, q.ne_xd⟩
    · exact Reps.nxd hs a ha
  | _, _, _, .pck h hs, a, ha => Reps.nxd hs a ha
theorem Reps.nxd : ∀ {vs : List V} {os : List O} {f : List Addr}, Reps K G H vs os f → ∀ a ∈ f, ∃ u, H a = some u ∧ ∀ fs, u ≠ .xd fs
  | _, _, _, .nil, a, ha => by cases ha
  | _, _, _, .cons h t, a, ha => by
    rcases List.mem_append.mp ha with ha | ha
    · exact Rep.nxd h a ha
    · exact Reps.nxd t a ha
end
theorem RepE.nxd : ∀ {σ : L2.St} {ρ : Env} {f : List Addr}, RepE K G H σ ρ f → ∀ a ∈ f, ∃ u, H a = some u ∧ ∀ fs, u ≠ .xd fs
  | _, _, _, .nil, a, ha => by cases ha
  | _, _, _, .no t, a, ha => RepE.nxd t a ha
  | _, _, _, .yes h t, a, ha => by
    rcases List.mem_append.mp ha with ha | ha
    · exact h.nxd a ha
    · exact RepE.nxd t a ha
end
def argD (ρ : Env) : Opd → Option D
  | .tmp o => freeze o
  | .plc i p => (getP ρ i p).bind freeze
def argDs (ρ : Env) : List Opd → Option (List D)
  | [] => some []
  | o :: os => match argD ρ o, argDs ρ os with
    | some d, some ds => some (d :: ds)
    | _, _ => none
def isTmp : Opd → Bool
  | .tmp _ => true
  | .plc _ _ => false
def ofRF (t : Bool) : RF → Rs Opd
  | .ok o _ => if t || cleanO o then .ok (.tmp o) else .bad
  | .exc c fs _ => if t || cleans (fs.map (·.2)) then .exc c fs else .bad
  | .bad => .bad
def callO (F : List O → RF) (ρ : Env) (os : List Opd) : Rs Opd := match argDs ρ os with
  | some ds => ofRF (os.all isTmp) (F (ds.map .dat))
  | none => .bad
def eCall (F : List O → RF) (fa : FOs) : FE := fun ρ => (fa ρ).bnd fun os => callO F ρ os
section
variable {K : PySem.W.Frag} {mg : Str → Option Value} {W : WX} {G H G' H' : Hp} {fp fp' f : List Addr} {σ : L2.St} {ρ : Env}
theorem args_frz {vs : List V} {os : List Opd} {ds : List D} {g : List Addr} (c : Conf K G H σ ρ fp) : ROs K G H σ vs os f → argDs ρ os = some ds → (∀ a ∈ f, a ∈ g) → (os.all isTmp = true ∨ ∀ a ∈ fp, a ∈ g) → (∀ a ∈ g, G a = none) → IsDs K (fz G H g) vs ds := by
  intro r
  induction r generalizing ds with
  | nil => intro e _ _ _; unfold argDs at e; cases e; exact .nil
  | cons h t ih =>
    rename_i v o f1 vs os f2
    intro e s1 s2 n
    unfold argDs at e
    cases z : argD ρ o with
    | none => rw [z] at e; cases e
    | some d =>
      cases y : argDs ρ os with
      | none => rw [z, y] at e; cases e
      | some ds' =>
        rw [z, y] at e
        simp only [Option.some.injEq] at e
        subst e
        have s2' : os.all isTmp = true ∨ ∀ a ∈ fp, a ∈ g := s2.imp (fun x => by
          rw [List.all_cons, Bool.and_eq_true] at x
          exact x.2) id
        refine .cons ?_ (ih y (fun a ha => s1 a (List.mem_append_right _ ha)) s2' n)
        cases o with
        | tmp o => exact Rep.freeze (show Rep K G H v o f1 from h) z g (fun a ha => s1 a (List.mem_append_left _ ha)) n
        | plc i p =>
          have s3 : ∀ a ∈ fp, a ∈ g := by
            rcases s2 with x | x
            · rw [List.all_cons] at x; cases x
            · exact x
          obtain ⟨ef, v0, h0, ha⟩ := h
          have z : (getP ρ i p).bind freeze = some d := z
          cases y2 : getP ρ i p with
          | none => rw [y2] at z; cases z
          | some o1 =>
            rw [y2] at z
            obtain ⟨pre, fm, post, e1, r1, _⟩ := c.rep.lensP c.ex h0 ha y2
            exact r1.freeze z g (fun a hm => s3 a (by rw [e1]; exact List.mem_append_left _ (List.mem_append_right _ hm))) n
theorem ROs.live {vs : List V} {os : List Opd} (r : ROs K G H σ vs os f) : ∀ a ∈ f, ∃ u, H a = some u ∧ NotT u := by
  induction r with
  | nil => intro a ha; cases ha
  | cons h t ih =>
    rename_i v o f2 vs os f3
    intro a ha
    rcases List.mem_append.mp ha with ha | ha
    · cases o with
      | tmp o => exact (show Rep K G H v o f2 from h).live a ha
      | plc i p => obtain ⟨e, _⟩ := h; subst e; cases ha
    · exact ih a ha
theorem ROs.length {vs : List V} {os : List Opd} (r : ROs K G H σ vs os f) : vs.length = os.length := by
  induction r with
  | nil => rfl
  | cons h t ih => simp [ih]
def LenO (n : Nat) (f : FOs) : Prop := ∀ ρ os, f ρ = .ok os → os.length = n
theorem LenO.nil : LenO 0 oNil := fun ρ ds h => by unfold oNil at h; cases h; rfl
theorem LenO.cons {n : Nat} {f : FE} {fr : FOs} (h : LenO n fr) : LenO (n + 1) (oCons f fr) := fun ρ ds e => by
  unfold oCons at e
  cases z : f ρ with
  | exc c fs => rw [z] at e; cases e
  | bad => rw [z] at e; cases e
  | ok d =>
    rw [z] at e
    simp only [Rs.bnd_ok] at e
    cases y : fr ρ with
    | exc c fs => rw [y] at e; cases e
    | bad => rw [y] at e; cases e
    | ok l =>
      rw [y] at e
      simp only [Rs.bnd_ok, Rs.ok.injEq] at e
      subst e
      simp [h ρ l y]
theorem call_read {n : Nat} {F : List O → RF} {fa : FOs} {Q : V → Hp → Prop} {H : Hp} (hn : LenO n fa) (h : tG K mg W (RO K) (eCall F fa) σ H Q) : tCallSD (spF K mg n F) [] (WE W) (tG K mg W (ROs K) fa) σ H Q := by
  obtain ⟨ρ, G, fp, c, q⟩ := h
  refine ⟨ρ, G, fp, c, ?_⟩
  unfold eCall at q
  cases z : fa ρ with
  | exc cc fs => rw [z] at q; exact q
  | bad => rw [z] at q; exact q
  | ok os =>
    rw [z] at q
    simp only [Rs.bnd_ok] at q
    intro vs G1 H1 f1 g1
    unfold callO at q
    cases y : argDs ρ os with
    | none => rw [y] at q; exact q.elim
    | some ds =>
      rw [y] at q
      simp only at q
      have c1 := g1.conf c
      have rr : ROs K G1 H1 σ vs os f1 := g1.rep
      have lf := rr.live
      have hl : (vs ++ []).length = n := by rw [List.append_nil, rr.length, hn ρ os z]
      have nof : ∀ a u, H a = some u → a ∉ f1 := fun a u e m => by
        have := (g1.fr a m).2
        rw [e] at this; cases this
      by_cases ht : os.all isTmp = true
      · rw [ht] at q
        have gn : ∀ a ∈ f1, G1 a = none := fun a h => (g1.fr a h).1
        have q1 := args_frz c1 rr y (g := f1) (fun _ h => h) (.inl ht) gn
        refine ⟨hl, ds.map .dat, fz G1 H1 f1, [], fz_in g1.x, by rw [List.append_nil]; exact reps_dats q1, List.nodup_nil, fun _ z => (by cases z), ?_⟩
        have eg : Ex G (fz G1 H1 f1) := g1.gr.ex.trans (fz_ex gn)
        have grow : ∀ {G' H' : Hp} {fp' : List Addr}, Stp (fz G1 H1 f1) H1 [] G' H' fp' → Gr G H G' ∧ Ex H H' := fun {G' H' fp'} s => by
          refine ⟨⟨eg.trans s.eg, fun a u e t k => ?_⟩, fun a u e => s.fr a u (g1.eh a u e) (by simp)⟩
          refine s.og a u (g1.eh a u e) (by simp) t ?_
          rw [fz_not (nof a u e)]
          exact g1.gr.old a u e t k
        cases w : F (ds.map .dat) with
        | bad => rw [w] at q; exact q.elim
        | exc cc fs os' =>
          rw [w] at q
          have q : Post K mg W (RO K) (.exc cc fs) σ G H Q := q
          intro cls d G' H' fp' m s x _ _ _ ef
          exact q cls d G' H' m (grow s).1 (grow s).2 x ef
        | ok o os' =>
          rw [w] at q
          have q : Post K mg W (RO K) (.ok (.tmp o)) σ G H Q := q
          intro v G' H' f fp' s x r _ nd fr
          refine q v G' H' f ⟨(grow s).1, (grow s).2, x, r, (nd_parts nd).1, fun b hb => ⟨fr b (List.mem_append_left _ hb), ?_⟩⟩
          rcases s.sb b (List.mem_append_left _ hb) with k | k
          · cases k
          · exact L2.Same.free g1.eh k
      · have ht' : os.all isTmp = false := by simpa using ht
        rw [ht'] at q
        have gn : ∀ a ∈ f1 ++ fp, G1 a = none := fun a h => by
          rcases List.mem_append.mp h with h | h
          · exact (g1.fr a h).1
          · exact c1.fr a h
        have q1 := args_frz c1 rr y (g := f1 ++ fp) (fun _ h => List.mem_append_left _ h) (.inr fun _ h => List.mem_append_right _ h) gn
        refine ⟨hl, ds.map .dat, fz G1 H1 (f1 ++ fp), [], fz_in g1.x, by rw [List.append_nil]; exact reps_dats q1, List.nodup_nil, fun _ z => (by cases z), ?_⟩
        have eg : Ex G (fz G1 H1 (f1 ++ fp)) := g1.gr.ex.trans (fz_ex gn)
        have grow : ∀ {G' H' : Hp} {fp' : List Addr}, Stp (fz G1 H1 (f1 ++ fp)) H1 [] G' H' fp' → Gr G H (unf G' fp) ∧ Ex H H' := fun {G' H' fp'} s => by
          refine ⟨⟨fun a u e => ?_, fun a u e t k => ?_⟩, fun a u e => s.fr a u (g1.eh a u e) (by simp)⟩
          · unfold unf
            have na : a ∉ fp := fun m => by
              have := c.fr a m
              rw [e] at this; cases this
            rw [if_neg na]
            exact s.eg _ _ (eg _ _ e)
          · unfold unf
            by_cases na : a ∈ fp
            · rw [if_pos na]
            · rw [if_neg na]
              refine s.og a u (g1.eh a u e) (by simp) t ?_
              rw [fz_not fun m => (List.mem_append.mp m).elim (nof a u e) na]
              exact g1.gr.old a u e t k
        have ex2 : ∀ {G' H' : Hp}, Ex G' H' → Ex (unf G' fp) H' := fun {G' H'} x a u e => by
          unfold unf at e
          by_cases na : a ∈ fp
          · rw [if_pos na] at e; cases e
          · rw [if_neg na] at e; exact x a u e
        cases w : F (ds.map .dat) with
        | bad => rw [w] at q; exact q.elim
        | exc cc fs os' =>
          rw [w] at q
          have q : Post K mg W (RO K) (if (false || cleans (fs.map (·.2))) = true then .exc cc fs else .bad) σ G H Q := q
          by_cases co : cleans (fs.map (·.2)) = true
          · rw [co] at q
            have q : Post K mg W (RO K) (.exc cc fs) σ G H Q := q
            intro cls d G' H' fp' m s x _ _ _ ef
            refine q cls d (unf G' fp) H' m (grow s).1 (grow s).2 (ex2 x) ?_
            have lv : ∀ a ∈ fp, ∃ u, H' a = some u ∧ NotT u := fun a ha => by
              obtain ⟨u, h1, h2⟩ := c1.rep.live a ha
              exact ⟨u, s.fr a u h1 (by simp), h2⟩
            rcases ef with ⟨e1, e2⟩ | ⟨e1, dx, xfs, e2, e3, e4, e5, e6⟩
            · exact .inl ⟨e1, e2⟩
            · refine .inr ⟨e1, dx, xfs, e2, e3, ?_, e5, e6.clean x lv co⟩
              have nd : dx ∉ fp := fun m => by
                obtain ⟨u, h1, h2⟩ := c1.rep.nxd dx m
                have := s.fr dx u h1 (by simp)
                rw [e3] at this
                exact h2 xfs (Option.some.inj this).symm
              unfold unf
              rw [if_neg nd]
              exact e4
          · rw [show (false || cleans (fs.map (·.2))) = false by simpa using co] at q
            exact q.elim
        | ok o os' =>
          rw [w] at q
          have q : Post K mg W (RO K) (if (false || cleanO o) = true then .ok (.tmp o) else .bad) σ G H Q := q
          by_cases co : cleanO o = true
          · rw [co] at q
            have q : Post K mg W (RO K) (.ok (.tmp o)) σ G H Q := q
            intro v G' H' f fp' s x r _ nd fr
            have lv : ∀ a ∈ fp, ∃ u, H' a = some u ∧ NotT u := fun a ha => by
              obtain ⟨u, h1, h2⟩ := c1.rep.live a ha
              exact ⟨u, s.fr a u h1 (by simp), h2⟩
            refine q v (unf G' fp) H' f ⟨(grow s).1, (grow s).2, ex2 x, r.clean x lv co, (nd_parts nd).1, fun b hb => ⟨?_, ?_⟩⟩
            · unfold unf
              by_cases na : b ∈ fp
              · rw [if_pos na]
              · rw [if_neg na]
                exact fr b (List.mem_append_left _ hb)
            · rcases s.sb b (List.mem_append_left _ hb) with k | k
              · cases k
              · exact L2.Same.free g1.eh k
          · rw [show (false || cleanO o) = false by simpa using co] at q
            exact q.elim
end
section
variable {X : Cx} {W : WX} {CX : CXT} {k n : Nat} {f : Addr} {fd : FuncData} {ps : List Str} {F : List O → RF} {fa : FOs} {x : Str} {p pos : Pos} {e : Expr} {es : List Expr}
theorem ee_call (ok : FnOk X.prog X.w X.K X.mg X.base (L2.CX X.prog X.w) k f fd ps (spF X.K X.mg n F)) (hr : Room k X.A) (hg : Gl X x) (hm : X.mg x = some (.ref f)) (hk : PySem.W.keepIn X.K (.ref f) = true) (hb : Binds X.K fd ps []) (tk : Takes X W) (hn : LenO n fa)
    (ha : EOs X W (e :: es) fa) (hdb : (x == ("__debug__" : Str)) = false := by decide) (he : starEach (e :: es) X.env = (false, eval e X.env) :: starEach es X.env := by rfl) (hpl : (backTo pos (starEach es X.env)).any (·.1) = false := by rfl) :
    EE X W (.Call (.Name x p) (e :: es) [] pos) (eCall F fa) := PEimp (pe_callSD ok hr hg hm hk hb .nil (fun σ => passAt tk σ) ha hdb he hpl) fun σ H Q h => call_read hn h
end
end FL
namespace FL
open PySem L2
theorem nd_swap {α : Type} {pre post fl f2 f' fr : List α} {a : α} (h : (f2 ++ (pre ++ (a :: fl) ++ post)).Nodup) (hn : (fr ++ f').Nodup) (hs : ∀ x ∈ fr ++ f', x ∈ fl ∨ x ∈ f2) : (fr ++ (pre ++ (a :: f') ++ post)).Nodup := by
  simp only [List.nodup_append, List.nodup_cons, List.mem_append, List.mem_cons] at *
  grind
abbrev Mu := Tag → List O → List O → Option (Tag × List O × O)
def MutOk (K : PySem.W.Frag) (r : V → List V → Hp → VK → Prop) (M : Mu) : Prop := ∀ {G H : Hp} {a : Addr} {ho : HO} {t t' : Tag} {xs vs : List V} {l l' args : List O} {res : O} {fl f2 : List Addr} {Q : VK},
  Ex G H → H a = some ho → Holds t xs ho → Reps K G H xs l fl → Reps K G H vs args f2 → (fl ++ f2).Nodup → M t l args = some (t', l', res) →
  (∀ v ho' xs' f' fr, Holds t' xs' ho' → Reps K G H xs' l' f' → Rep K G H v res fr → (∀ x ∈ fr ++ f', x ∈ fl ∨ x ∈ f2) → (fr ++ f').Nodup → Q v (upd H a ho')) → r (.ref a) vs H Q
def tmps : List Opd → Option (List O)
  | [] => some []
  | .tmp o :: os => (tmps os).map (o :: ·)
  | .plc _ _ :: _ => none
def muRes (M : Mu) (i : Nat) (p : List Nat) (args : List O) (ρ : Env) : RX := match getP ρ i p with
  | some (.node t l) => (match M t l args with
    | some (t', l', res) => .ok (.tmp res) (putP ρ i p (.node t' l'))
    | none => .bad)
  | _ => .bad
def isT (T : String) : Option O → Bool
  | some (.node .lst _) => T == "list"
  | some (.node (.dct _) _) => T == "dict"
  | some (.node (.dcT _) _) => T == "dict"
  | _ => false
def xMut (T : String) (M : Mu) (fo : FE) (fa : FOs) : FX := fun ρ => match fo ρ with
  | .ok (.plc i p) => if isT T (getP ρ i p) = true then (match fa ρ with
    | .ok os => (match tmps os with
      | some args => muRes M i p args ρ
      | none => .bad)
    | .exc c fs => .exc c fs ρ
    | .bad => .bad) else .bad
  | .exc c fs => .exc c fs ρ
  | _ => .bad
def xMut1 (T : String) (M : Mu) (fo : FE) (fx : FX) : FX := fun ρ => match fo ρ with
  | .ok (.plc i []) => if isT T (getP ρ i []) = true then (match fx ρ with
    | .ok o ρ' => (match toOwn ρ' o with
      | some (o2, ρ2) => muRes M i [] [o2] ρ2
      | none => .bad)
    | .exc c fs ρ' => .exc c fs ρ'
    | .bad => .bad) else .bad
  | .exc c fs => .exc c fs ρ
  | _ => .bad
section
variable {K : PySem.W.Frag} {mg : Str → Option Value} {W : WX} {G H G1 H1 G2 H2 G' H' : Hp} {fp fp1 fp' f f2 : List Addr} {σ : L2.St} {ρ ρ' : Env} {Q : V → Hp → Prop} {M : Mu} {r : V → List V → Hp → VK → Prop}
theorem tmps_is {vs : List V} {os : List Opd} (h : ROs K G H σ vs os f) : ∀ {l : List O}, tmps os = some l → Reps K G H vs l f := by
  induction h with
  | nil => intro l e; cases e; exact .nil
  | cons h t ih =>
    rename_i v o f1 vs os f3
    intro l e
    cases o with
    | plc i p => cases e
    | tmp o =>
      have e : (tmps os).map (o :: ·) = some l := e
      cases z : tmps os with
      | none => rw [z] at e; cases e
      | some l' =>
        rw [z] at e
        simp only [Option.map_some, Option.some.injEq] at e
        subst e
        exact .cons h (ih z)
theorem mu_go {i : Nat} {p : List Nat} {v0 w : V} {vs : List V} {args : List O} (mo : MutOk K r M) (s0 : Stp G H fp G2 H2 (f2 ++ fp1)) (c : Conf K G2 H2 σ ρ fp1) (h0 : σ[i]? = some (some v0)) (ha : At H2 v0 p w) (ra : Reps K G2 H2 vs args f2) (nd : (f2 ++ fp1).Nodup)
    (fr2 : ∀ b ∈ f2, G2 b = none) (q : PostX K mg W (muRes M i p args ρ) σ G H fp Q) : r w vs H2 Q := by
  unfold muRes at q
  cases z : getP ρ i p with
  | none => rw [z] at q; exact q.elim
  | some o =>
    rw [z] at q
    cases o with
    | dat d => exact q.elim
    | pck l => exact q.elim
    | node t l =>
      simp only at q
      cases y : M t l args with
      | none => rw [y] at q; exact q.elim
      | some tr =>
        obtain ⟨t', l', res⟩ := tr
        rw [y] at q
        simp only at q
        obtain ⟨pre, fm, post, e1, r1, back⟩ := c.rep.lensP c.ex h0 ha z
        cases r1 with
        | node hh hd rl =>
          rename_i a ho xs fl
          have nd0 := nd
          rw [e1] at nd0
          have nfl : (fl ++ f2).Nodup := by
            simp only [List.nodup_append, List.nodup_cons, List.mem_append, List.mem_cons] at nd0 ⊢
            grind
          have naf : a ∉ fl ∧ a ∉ f2 ∧ a ∉ pre ∧ a ∉ post := by
            simp only [List.nodup_append, List.nodup_cons, List.mem_append, List.mem_cons] at nd0
            grind
          have afp : a ∈ fp1 := by rw [e1]; simp
          refine mo c.ex hh hd rl ra nfl y fun v ho' xs' f' fr hd' rl' rv hs hn => ?_
          have ndn := nd_swap nd0 hn hs
          have keep : ∀ b, b ≠ a → ∀ u, H2 b = some u → upd H2 a ho' b = some u := fun b hb u e => by rw [upd_ne hb]; exact e
          have nin : ∀ x ∈ fr ++ f', x ≠ a := fun x hx e => by
            rcases hs x hx with k | k
            · exact naf.1 (e ▸ k)
            · exact naf.2.1 (e ▸ k)
          have Ga : G2 a = none := c.fr a afp
          have ex' : Ex G2 (upd H2 a ho') := fun b u e => by
            rw [upd_ne (fun k => by rw [k, Ga] at e; cases e)]
            exact c.ex b u e
          have rl2 : Reps K G2 (upd H2 a ho') xs' l' f' := rl'.mono (Ex.refl _) fun b hb u e => keep b (nin b (List.mem_append_right _ hb)) u e
          have rv2 : Rep K G2 (upd H2 a ho') v res fr := rv.mono (Ex.refl _) fun b hb u e => keep b (nin b (List.mem_append_left _ hb)) u e
          have rn : Rep K G2 (upd H2 a ho') (.ref a) (.node t' l') (a :: f') := .node upd_same hd' rl2
          have env' := back (G' := G2) (H' := upd H2 a ho') (Ex.refl _) (fun b hb u e => keep b (fun k => by subst k; exact hb.elim naf.2.2.1 naf.2.2.2) u e) rn
          have gn : ∀ x ∈ fl, G2 x = none := fun x hx => c.fr x (by rw [e1]; simp [hx])
          have sub : ∀ x ∈ fr ++ (pre ++ (a :: f') ++ post), x ∈ f2 ++ fp1 := fun x hx => by
            rw [e1]
            simp only [List.mem_append, List.mem_cons] at hx ⊢ hs
            grind
          have gall : ∀ x ∈ f2 ++ fp1, G2 x = none := fun x hx => (List.mem_append.mp hx).elim (fr2 x) (c.fr x)
          refine q v G2 (upd H2 a ho') fr (pre ++ (a :: f') ++ post) ⟨s0.trans ⟨Ex.refl _, fun b u e n => keep b (fun k => by subst k; exact n (List.mem_append_right _ afp)) u e, fun b u e => ?_, fun b hb => .inl (sub b hb), fun _ _ _ _ _ k => k⟩, ⟨ex', env', ?_, fun b hb => gall b (sub b (List.mem_append_right _ hb))⟩, rv2, ndn, fun b hb => gall b (sub b (List.mem_append_left _ hb))⟩
          · by_cases k : b = a
            · subst k; exact ⟨_, upd_same⟩
            · exact ⟨u, keep b k u e⟩
          · exact (nd_parts ndn).2.1
theorem plc_at {i : Nat} {p : List Nat} {v0 w : V} {t : Tag} {l : List O} (c : Conf K G H σ ρ fp) (h0 : σ[i]? = some (some v0)) (ha : At H v0 p w) (z : getP ρ i p = some (.node t l)) : ∃ a ho xs fl, w = .ref a ∧ H a = some ho ∧ Holds t xs ho ∧ Reps K G H xs l fl := by
  obtain ⟨pre, fm, post, e1, r1, back⟩ := c.rep.lensP c.ex h0 ha z
  cases r1 with
  | node hh hd rl => exact ⟨_, _, _, _, rfl, hh, hd, rl⟩
theorem tyV_at {T : String} {i : Nat} {p : List Nat} {v0 w : V} (c : Conf K G H σ ρ fp) (h0 : σ[i]? = some (some v0)) (ha : At H v0 p w) (z : isT T (getP ρ i p) = true) : tyV K T w H := by
  cases y : getP ρ i p with
  | none => rw [y] at z; cases z
  | some o =>
    rw [y] at z
    cases o with
    | dat d => cases z
    | pck l => cases z
    | node t l =>
      obtain ⟨a, ho, xs, fl, rfl, k1, k2, _⟩ := plc_at c h0 ha y
      cases t with
      | lst =>
        have e : (T == "list") = true := z
        cases k2
        exact .inl ⟨eq_of_beq e, xs, SqL.of k1⟩
      | dct ks =>
        have e : (T == "dict") = true := z
        obtain ⟨_, rfl⟩ := k2
        exact .inr (.inr (.inl ⟨eq_of_beq e, .inl ⟨_, k1⟩⟩))
      | dcT ks =>
        have e : (T == "dict") = true := z
        obtain ⟨_, rfl⟩ := k2
        exact .inr (.inr (.inl ⟨eq_of_beq e, .inr ⟨_, k1⟩⟩))
      | ins C ns => cases z
theorem mut_read {T : String} {fo : FE} {fa : FOs} {H : Hp} (mo : MutOk K r M) (h : tX K mg W (xMut T M fo fa) σ H Q) : tBM K T r (tG K mg W (RO K) fo) (tG K mg W (ROs K) fa) σ H Q := by
  obtain ⟨ρ, G, fp, c, q⟩ := h
  refine ⟨ρ, G, fp, c, ?_⟩
  unfold xMut at q
  cases z : fo ρ with
  | bad => rw [z] at q; exact q
  | exc cc fs =>
    rw [z] at q
    exact fun cls d G' H' m gr eh x ef => q cls d G' H' fp m (Stp.of gr eh) (c.grow gr eh x) ef
  | ok o =>
    rw [z] at q
    cases o with
    | tmp o => exact q.elim
    | plc i p =>
      simp only at q
      intro v G1 H1 f1 g1
      obtain ⟨ef, v0, h0, ha⟩ := g1.rep
      subst ef
      have c1 := g1.conf c
      by_cases ht : isT T (getP ρ i p) = true
      · rw [if_pos ht] at q
        have st1 : Stp G H fp G1 H1 fp := by simpa using (g1.stp (fp := fp))
        refine ⟨tyV_at c1 h0 ha ht, ρ, G1, fp, c1, ?_⟩
        cases y : fa ρ with
        | bad => rw [y] at q; exact q.elim
        | exc cc fs =>
          rw [y] at q
          exact fun cls d G' H' m gr eh x ef => q cls d G' H' fp m (st1.trans (Stp.of gr eh)) (c1.grow gr eh x) ef
        | ok os =>
          rw [y] at q
          simp only at q
          intro vs G2 H2 f2 g2
          cases y3 : tmps os with
          | none => rw [y3] at q; exact q.elim
          | some args =>
            rw [y3] at q
            have c2 := g2.conf c1
            refine mu_go (G := G) (H := H) (fp := fp) (fp1 := fp) mo (st1.trans (g2.stp (fp := fp))) c2 h0 (ha.mono g2.eh) (tmps_is g2.rep y3) (nd_join g2.nd c2.nd fun x hx hy => ?_) (fun b hb => (g2.fr b hb).1) q
            obtain ⟨u, hu, _⟩ := c1.rep.live x hy
            rw [(g2.fr x hx).2] at hu; cases hu
      · rw [if_neg ht] at q; exact q.elim
theorem mut1_read {T : String} {fo : FE} {fx : FX} {H : Hp} (mo : MutOk K r M) (h : tX K mg W (xMut1 T M fo fx) σ H Q) : tBM K T r (tG K mg W (RO K) fo) (tCons (tX K mg W fx) tNil) σ H Q := by
  obtain ⟨ρ, G, fp, c, q⟩ := h
  refine ⟨ρ, G, fp, c, ?_⟩
  unfold xMut1 at q
  cases z : fo ρ with
  | bad => rw [z] at q; exact q
  | exc cc fs =>
    rw [z] at q
    exact fun cls d G' H' m gr eh x ef => q cls d G' H' fp m (Stp.of gr eh) (c.grow gr eh x) ef
  | ok o =>
    rw [z] at q
    cases o with
    | tmp o => exact q.elim
    | plc i p =>
      cases p with
      | cons _ _ => exact q.elim
      | nil =>
        simp only at q
        intro v G1 H1 f1 g1
        obtain ⟨ef, v0, h0, ha⟩ := g1.rep
        subst ef
        have c1 := g1.conf c
        by_cases ht : isT T (getP ρ i []) = true
        · rw [if_pos ht] at q
          have st1 : Stp G H fp G1 H1 fp := by simpa using (g1.stp (fp := fp))
          refine ⟨tyV_at c1 h0 ha ht, ρ, G1, fp, c1, ?_⟩
          cases y : fx ρ with
          | bad => rw [y] at q; exact q.elim
          | exc cc fs ρ' =>
            rw [y] at q
            exact fun cls d G' H' fp' m s cf ef => q cls d G' H' fp' m (st1.trans s) cf ef
          | ok o ρ' =>
            rw [y] at q
            simp only at q
            intro w G2 H2 f2 fp2 g2
            cases y3 : toOwn ρ' o with
            | none => rw [y3] at q; exact q.elim
            | some ow =>
              obtain ⟨o2, ρ2⟩ := ow
              rw [y3] at q
              obtain ⟨G3, f3, fp3, s3, c3, r3, n3, k3⟩ := g2.own y3
              refine mu_go (G := G) (H := H) (fp := fp) (p := []) mo (st1.trans s3) c3 h0 ?_ ?_ n3 k3 q
              · obtain rfl : v0 = v := ha
                exact rfl
              · have := Reps.cons r3 .nil
                simpa using this
        · rw [if_neg ht] at q; exact q.elim
end

def okI (i : Int) : Prop := -(2 ^ 63) ≤ i ∧ i < 2 ^ 63
noncomputable instance (i : Int) : Decidable (okI i) := Classical.propDecidable _
def muApp : Mu := fun t l args => match t, args with
  | .lst, [o] => if l.length < sizeLine then some (.lst, l ++ [o], .dat .non) else none
  | _, _ => none
def muExt : Mu := fun t l args => match t, args with
  | .lst, [.node .lst l2] => if l.length + l2.length ≤ sizeLine then some (.lst, l ++ l2, .dat .non) else none
  | .lst, [.dat (.lst l2)] => if l.length + l2.length ≤ sizeLine then some (.lst, l ++ l2.map .dat, .dat .non) else none
  | _, _ => none
def muPop0 : Mu := fun t l args => match t, args with
  | .lst, [] => (match l[l.length - 1]? with
    | some o => some (.lst, l.dropLast, o)
    | none => none)
  | _, _ => none
noncomputable def muPop1 : Mu := fun t l args => match t, args with
  | .lst, [.dat (.int i)] => (match (if okI i then seqIndex? i l.length else none) with
    | some k => (match l[k]? with
      | some o => some (.lst, l.eraseIdx k, o)
      | none => none)
    | none => none)
  | _, _ => none
def muRev : Mu := fun t l args => match t, args with
  | .lst, [] => some (.lst, l.reverse, .dat .non)
  | _, _ => none
def muClr : Mu := fun t l args => match t, args with
  | .lst, [] => some (.lst, [], .dat .non)
  | _, _ => none
noncomputable def muIns : Mu := fun t l args => match t, args with
  | .lst, [.dat (.int i), o] => if l.length < sizeLine ∧ 0 ≤ i ∧ okI i then some (.lst, l.take i.toNat ++ [o] ++ l.drop i.toNat, .dat .non) else none
  | _, _ => none
end FL
namespace FL
open PySem L2
section
variable {K : PySem.W.Frag} {G H : Hp}
theorem Reps.app : ∀ {vs ws : List V} {os us : List O} {f g : List Addr}, Reps K G H vs os f → Reps K G H ws us g → Reps K G H (vs ++ ws) (os ++ us) (f ++ g)
  | _, _, _, _, _, _, .nil, s => by simpa using s
  | _, _, _, _, _, _, .cons h t, s => by
    have z := Reps.cons h (Reps.app t s)
    simpa [List.append_assoc] using z
theorem Reps.rev : ∀ {vs : List V} {os : List O} {f : List Addr}, Reps K G H vs os f → ∃ f', Reps K G H vs.reverse os.reverse f' ∧ f'.Perm f
  | _, _, _, .nil => ⟨[], .nil, .refl _⟩
  | _, _, _, .cons (f := f) (fs := fs) h t => by
    obtain ⟨f', r, p⟩ := Reps.rev t
    have z := r.app (Reps.cons h .nil)
    refine ⟨f' ++ (f ++ []), by simpa using z, ?_⟩
    rw [List.append_nil]
    exact (List.perm_append_comm).trans (List.Perm.append_left f p)
theorem Reps.erase : ∀ {vs : List V} {os : List O} {f : List Addr} {k : Nat} {o : O}, Reps K G H vs os f → os[k]? = some o → ∃ v fo f', vs[k]? = some v ∧ Rep K G H v o fo ∧ Reps K G H (vs.eraseIdx k) (os.eraseIdx k) f' ∧ (fo ++ f').Perm f
  | _, _, _, _, _, .nil, e => by simp at e
  | _, _, _, 0, _, .cons (v := v) (f := f) (fs := fs) h t, e => by
    simp at e; subst e
    exact ⟨v, f, fs, rfl, h, by simpa using t, .refl _⟩
  | _, _, _, k + 1, o, .cons (f := f) (fs := fs) h t, e => by
    obtain ⟨v, fo, f', h1, h2, h3, h4⟩ := Reps.erase (k := k) (o := o) t (by simpa using e)
    refine ⟨v, fo, f ++ f', by simpa using h1, h2, by simpa using Reps.cons h h3, ?_⟩
    rw [← List.append_assoc]
    refine ((List.perm_append_comm (l₁ := fo) (l₂ := f)).append_right f').trans ?_
    rw [List.append_assoc]
    exact List.Perm.append_left f h4
theorem Reps.split : ∀ {vs : List V} {os : List O} {f : List Addr} (k : Nat), Reps K G H vs os f → ∃ f1 f2, Reps K G H (vs.take k) (os.take k) f1 ∧ Reps K G H (vs.drop k) (os.drop k) f2 ∧ f = f1 ++ f2
  | _, _, f, 0, h => ⟨[], f, .nil, h, rfl⟩
  | _, _, _, _ + 1, .nil => ⟨[], [], .nil, .nil, rfl⟩
  | _, _, _, k + 1, .cons (f := f) h t => by
    obtain ⟨f1, f2, h1, h2, h3⟩ := Reps.split k t
    exact ⟨f ++ f1, f2, .cons h h1, h2, by rw [h3, List.append_assoc]⟩
theorem Reps.putAt : ∀ {vs : List V} {os : List O} {f : List Addr} {k : Nat} {v : V} {o : O} {g : List Addr}, Reps K G H vs os f → k < os.length → Rep K G H v o g → ∃ pre fo post, f = pre ++ fo ++ post ∧ Reps K G H (vs.set k v) (os.set k o) (pre ++ g ++ post)
  | _, _, _, _, _, _, _, .nil, e, _ => by simp at e
  | _, _, _, 0, _, _, g, .cons (f := f) (fs := fs) h t, e, r => ⟨[], f, fs, by simp, by simpa using Reps.cons r t⟩
  | _, _, _, k + 1, _, _, g, .cons (f := f) (fs := fs) h t, e, r => by
    obtain ⟨pre, fo, post, h1, h2⟩ := Reps.putAt (k := k) t (by simpa using e) r
    refine ⟨f ++ pre, fo, post, by rw [h1]; simp [List.append_assoc], ?_⟩
    have z := Reps.cons h h2
    simpa [List.append_assoc] using z
theorem Reps.one {vs : List V} {o : O} {f : List Addr} (h : Reps K G H vs [o] f) : ∃ v, vs = [v] ∧ Rep K G H v o f := by
  cases h with
  | cons h t => cases t; exact ⟨_, rfl, by simpa using h⟩
theorem Reps.two {vs : List V} {o o2 : O} {f : List Addr} (h : Reps K G H vs [o, o2] f) : ∃ v w f1 f2, vs = [v, w] ∧ f = f1 ++ f2 ∧ Rep K G H v o f1 ∧ Rep K G H w o2 f2 := by
  cases h with
  | cons h t =>
    obtain ⟨w, rfl, r⟩ := t.one
    exact ⟨_, _, _, _, rfl, rfl, h, r⟩
theorem Reps.zero {vs : List V} {f : List Addr} (h : Reps K G H vs [] f) : vs = [] ∧ f = [] := by
  cases h; exact ⟨rfl, rfl⟩
theorem Rep.int {v : V} {i : Int} {f : List Addr} (h : Rep K G H v (.dat (.int i)) f) : v = .int i ∧ f = [] := by
  cases h with
  | dat h => cases h; exact ⟨rfl, rfl⟩
end
section
variable {K : PySem.W.Frag}
theorem app_M : MutOk K rAppend muApp := fun {G H a ho t t' xs vs l l' args res fl f2 Q} ex ha hd rl ra nd e k => by
  unfold muApp at e
  split at e
  · next o =>
    split at e
    · next hz =>
      cases e
      cases hd
      obtain ⟨v, rfl, r⟩ := ra.one
      have hl := rl.length
      refine ⟨a, xs, v, rfl, rfl, ha, by omega, k .non (.lst (xs ++ [v])) (xs ++ [v]) (fl ++ f2) [] rfl (reps_snoc rl r) (.dat .non) (fun x hx => ?_) (by simpa using nd)⟩
      simpa using hx
    · cases e
  · cases e
theorem ext_M : MutOk K rExtend muExt := fun {G H a ho t t' xs vs l l' args res fl f2 Q} ex ha hd rl ra nd e k => by
  unfold muExt at e
  split at e
  · next l2 =>
    split at e
    · next hz =>
      cases e
      cases hd
      obtain ⟨v, rfl, r⟩ := ra.one
      cases r with
      | node hb hd2 rs =>
        rename_i b ho2 zs fz
        cases hd2
        have hl := rl.length
        have hl2 := rs.length
        refine ⟨a, b, xs, zs, rfl, rfl, ha, hb, by omega, k .non (.lst (xs ++ zs)) (xs ++ zs) (fl ++ fz) [] rfl (rl.app rs) (.dat .non) (fun x hx => ?_) ?_⟩
        · simp only [List.nil_append, List.mem_append, List.mem_cons] at hx ⊢
          grind
        · simp only [List.nil_append, List.nodup_append, List.nodup_cons, List.mem_cons] at nd ⊢
          grind
    · cases e
  · next l2 =>
    split at e
    · next hz =>
      cases e
      cases hd
      obtain ⟨v, rfl, r⟩ := ra.one
      cases r with
      | dat r =>
        cases r with
        | lst h1 h2 =>
          have hl := rl.length
          have hl2 := h2.length
          refine ⟨a, _, xs, _, rfl, rfl, ha, ex _ _ h1, by omega, k .non (.lst (xs ++ _)) _ (fl ++ []) [] rfl (rl.app (reps_dats h2)) (.dat .non) (fun x hx => ?_) ?_⟩
          · simpa using hx
          · simpa using nd
    · cases e
  · cases e
theorem dropLast_erase {α : Type} (l : List α) : l.eraseIdx (l.length - 1) = l.dropLast := List.eraseIdx_length_sub_one
theorem pop_M0 : MutOk K rPop muPop0 := fun {G H a ho t t' xs vs l l' args res fl f2 Q} ex ha hd rl ra nd e k => by
  unfold muPop0 at e
  split at e
  · split at e
    · next o ho2 =>
      cases e
      cases hd
      obtain ⟨rfl, rfl⟩ := ra.zero
      obtain ⟨v, fo, f', h1, h2, h3, h4⟩ := rl.erase ho2
      have hl := rl.length
      rw [← hl] at h1
      rw [dropLast_erase, ← hl, dropLast_erase] at h3
      refine ⟨a, xs, v, rfl, rfl, ha, h1, k v (.lst xs.dropLast) xs.dropLast f' fo rfl h3 h2 (fun x hx => .inl (h4.mem_iff.mp hx)) (h4.nodup_iff.mpr (by simpa using nd))⟩
    · cases e
  · cases e
theorem pop_M1 : MutOk K rPopAt muPop1 := fun {G H a ho t t' xs vs l l' args res fl f2 Q} ex ha hd rl ra nd e k => by
  unfold muPop1 at e
  split at e
  · next i =>
    split at e
    · next j hj =>
      split at e
      · next o ho2 =>
        cases e
        cases hd
        obtain ⟨w, rfl, r⟩ := ra.one
        obtain ⟨rfl, rfl⟩ := r.int
        by_cases hb : okI i
        · rw [if_pos hb] at hj
          obtain ⟨v, fo, f', h1, h2, h3, h4⟩ := rl.erase ho2
          have hl := rl.length
          refine ⟨a, xs, i, j, v, rfl, rfl, ha, hb.1, hb.2, by rw [hl]; exact hj, h1, k v (.lst (xs.eraseIdx j)) (xs.eraseIdx j) f' fo rfl h3 h2 (fun x hx => .inl (h4.mem_iff.mp hx)) (h4.nodup_iff.mpr (by simpa using nd))⟩
        · rw [if_neg hb] at hj; cases hj
      · cases e
    · cases e
  · cases e
theorem rev_M : MutOk K rReverse muRev := fun {G H a ho t t' xs vs l l' args res fl f2 Q} ex ha hd rl ra nd e k => by
  unfold muRev at e
  split at e
  · cases e
    cases hd
    obtain ⟨rfl, rfl⟩ := ra.zero
    obtain ⟨f', r, p⟩ := rl.rev
    exact ⟨a, xs, rfl, rfl, ha, k .non (.lst xs.reverse) xs.reverse f' [] rfl r (.dat .non) (fun x hx => .inl (p.mem_iff.mp (by simpa using hx))) (by simpa using p.nodup_iff.mpr (by simpa using nd))⟩
  · cases e
theorem clr_M : MutOk K rClear muClr := fun {G H a ho t t' xs vs l l' args res fl f2 Q} ex ha hd rl ra nd e k => by
  unfold muClr at e
  split at e
  · cases e
    cases hd
    obtain ⟨rfl, rfl⟩ := ra.zero
    exact ⟨a, xs, rfl, rfl, ha, k .non (.lst []) [] [] [] rfl .nil (.dat .non) (fun x hx => by cases hx) (by simp)⟩
  · cases e
def rInsert : V → List V → Hp → VK → Prop := fun x vs H Q => ∃ (l : Addr) (xs : List V) (i : Int) (y : V), x = .ref l ∧ vs = [.int i, y] ∧ H l = some (.lst xs) ∧ xs.length < sizeLine ∧ 0 ≤ i ∧ i < 2 ^ 63 ∧
    Q .non (upd H l (.lst (xs.take i.toNat ++ [y] ++ xs.drop i.toNat)))
theorem ins_M : MutOk K rInsert muIns := fun {G H a ho t t' xs vs l l' args res fl f2 Q} ex ha hd rl ra nd e k => by
  unfold muIns at e
  split at e
  · next i o =>
    split at e
    · next hz =>
      cases e
      cases hd
      obtain ⟨v, w, g1, g2, rfl, rfl, r1, r2⟩ := ra.two
      obtain ⟨rfl, rfl⟩ := r1.int
      have hl := rl.length
      obtain ⟨k1, k2, s1, s2, rfl⟩ := rl.split i.toNat
      refine ⟨a, xs, i, w, rfl, rfl, ha, by omega, hz.2.1, hz.2.2.2, k .non (.lst _) _ (k1 ++ g2 ++ k2) [] rfl ((reps_snoc s1 r2).app s2) (.dat .non) (fun x hx => ?_) ?_⟩
      · simp only [List.nil_append, List.mem_append] at hx ⊢
        grind
      · simp only [List.nil_append, List.nodup_append, List.mem_append] at nd ⊢
        grind
    · cases e
  · cases e
def muSet : Mu := fun t l args => match t, args with
  | .lst, [.dat (.int i), o] => (match ixN l.length i with
    | some j => if j < l.length then some (.lst, l.set j o, .dat .non) else none
    | none => none)
  | _, _ => none
def rOfSet (r : TSet) : V → List V → Hp → VK → Prop := fun x vs H Q => ∃ i v, vs = [i, v] ∧ r x i v H fun H' => Q .non H'
theorem set_M : MutOk K (rOfSet rSetL) muSet := fun {G H a ho t t' xs vs l l' args res fl f2 Q} ex ha hd rl ra nd e k => by
  unfold muSet at e
  split at e
  · next i o =>
    split at e
    · next j hj =>
      split at e
      · next hlt =>
        cases e
        cases hd
        obtain ⟨v, w, g1, g2, rfl, rfl, r1, r2⟩ := ra.two
        obtain ⟨rfl, rfl⟩ := r1.int
        have hl := rl.length
        obtain ⟨pre, fo, post, rfl, q⟩ := rl.putAt hlt r2
        refine ⟨.int i, w, rfl, a, xs, i, j, rfl, rfl, ha, by rw [hl]; exact hj, k .non (.lst (xs.set j w)) _ (pre ++ g2 ++ post) [] rfl q (.dat .non) (fun x hx => ?_) ?_⟩
        · simp only [List.nil_append, List.mem_append] at hx ⊢
          grind
        · simp only [List.nil_append, List.nodup_append, List.mem_append] at nd ⊢
          grind
      · cases e
    · cases e
  · cases e
end

theorem tG_mono {K : PySem.W.Frag} {mg : Str → Option Value} {W : WX} {α υ : Type} {R : RT υ α} {f : Env → Rs α} {σ : L2.St} {H : Hp} {Q Q' : υ → Hp → Prop} (h : tG K mg W R f σ H Q) (i : ∀ v G H', Ex G H' → Q v H' → Q' v H') : tG K mg W R f σ H Q' := by
  obtain ⟨ρ, G, fp, c, q⟩ := h
  refine ⟨ρ, G, fp, c, ?_⟩
  cases z : f ρ with
  | ok a =>
    rw [z] at q
    exact fun v G' H' fo g => i v G' H' g.x (q v G' H' fo g)
  | exc cc fs => rw [z] at q; exact q
  | bad => rw [z] at q; exact q
section
variable {X : Cx} {W : WX} {o e : Expr} {es : List Expr} {fo : FE} {fa : FOs} {fx : FX} {name : Str} {apos cpos : Pos} {T id : String} {r : V → List V → Hp → VK → Prop} {M : Mu}
theorem xx_mut (pa : PlainAttrs T) (slot : Slot T name id) (hty : typeOf (.builtin id) = pure (.type "method_descriptor")) (hm : MtR X id r) (mo : MutOk X.K r M) (ho : EE X W o fo) (ha : EOs X W (e :: es) fa)
    (hbase : attributeBase o name X.env (eval o X.env) = eval o X.env := by rfl)
    (hfew : ((backTo cpos (starEach (e :: es) X.env)).all (fun x => !x.1) && (backToKw cpos (keywordEach [] X.env)).all (fun x => x.1.isSome)
      && decide ((e :: es).length + ([] : List Keyword).length + (if ([] : List Keyword).isEmpty then 0 else 1) < 30)) = true := by rfl)
    (hline : (apos.endLine == cpos.line) = true := by rfl) (hs : starEach (e :: es) X.env = (false, eval e X.env) :: starEach es X.env := by rfl) (hplain : (backTo cpos (starEach es X.env)).any (·.1) = false := by rfl) :
    XX X W (.Call (.Attribute o name apos) (e :: es) [] cpos) (xMut T M fo fa) := PEimp (pe_bm pa slot hty hm ho ha hbase hfew hline hs hplain) fun σ H Q h => mut_read mo h
theorem xx_mut1 (pa : PlainAttrs T) (slot : Slot T name id) (hty : typeOf (.builtin id) = pure (.type "method_descriptor")) (hm : MtR X id r) (mo : MutOk X.K r M) (ho : EE X W o fo) (ha : XX X W e fx)
    (hbase : attributeBase o name X.env (eval o X.env) = eval o X.env := by rfl)
    (hfew : ((backTo cpos (starEach [e] X.env)).all (fun x => !x.1) && (backToKw cpos (keywordEach [] X.env)).all (fun x => x.1.isSome)
      && decide ([e].length + ([] : List Keyword).length + (if ([] : List Keyword).isEmpty then 0 else 1) < 30)) = true := by rfl)
    (hline : (apos.endLine == cpos.line) = true := by rfl) (hs : starEach [e] X.env = (false, eval e X.env) :: starEach [] X.env := by rfl) (hplain : (backTo cpos (starEach [] X.env)).any (·.1) = false := by rfl) :
    XX X W (.Call (.Attribute o name apos) [e] [] cpos) (xMut1 T M fo fx) := PEimp (pe_bm pa slot hty hm ho (pa_cons ha pa_nil hs) hbase hfew hline hs hplain) fun σ H Q h => mut1_read mo h
theorem xx_mut0 (pa : PlainAttrs T) (slot : Slot T name id) (hty : typeOf (.builtin id) = pure (.type "method_descriptor")) (hm : MtR X id r) (mo : MutOk X.K r M) (ho : EE X W o fo)
    (hbase : attributeBase o name X.env (eval o X.env) = eval o X.env := by rfl) (hline : (apos.endLine == cpos.line) = true := by rfl) : XX X W (.Call (.Attribute o name apos) [] [] cpos) (xMut T M fo oNil) :=
  PEimp (pe_bm0 pa slot hty hm ho hbase hline) fun σ H Q h => tG_mono (mut_read mo h) fun v G H' x ⟨ty, ρ, G1, fp, c, q⟩ => ⟨ty, q [] G1 H' [] ⟨Gr.refl, Ex.refl _, c.ex, .nil, List.nodup_nil, fun _ z => by cases z⟩⟩

def sSto (M : Mu) (fx : FX) (fo : FE) (fi : FE) : FS := fun ρ => (fx ρ).thn fun o ρ' => toRS (toOwn ρ' o) fun o2 => fun ρ2 => (fo ρ2).thn ρ2 fun w => fun ρ2 => match w with
  | .plc i p => (dE fi ρ2).thn ρ2 fun d => fun ρ2 => (muRes M i p [.dat d, o2] ρ2).thn fun _ => sNx
  | .tmp _ => .bad
theorem ss_sto {kp : List Nat} {i : Expr} {fi : FE} {tset : TSet} {pos p2 : Pos} (he : XX X W e fx) (ho : EE X W o fo) (hi : EE X W i fi) (hs : PSet X tset) (mo : MutOk X.K (rOfSet tset) M)
    (ha : ∀ v, assign (.Subscript o i p2) X.env v = (do
      let ov ← holding [v] (eval o X.env)
      let iv ← holding [v, ov] (eval i X.env)
      standAt p2
      holding [v, ov, iv] (setItem ov iv v)
      release [v, ov, iv] []) := by intro _; rfl)
    (hsw : swapsWithSole [.Subscript o i p2] e pos.line X.env = pure false := by rfl) (hw : swappedStores [.Subscript o i p2] e X.env = pure none := by rfl)
    (h1 : (assignEach [.Subscript o i p2] X.env).map (·.2) = [assign (.Subscript o i p2) X.env] := by rfl) : SS X W kp (.Assign [.Subscript o i p2] e pos) (sSto M fx fo fi) :=
  PSimp (ps_asg he (pg_sub ho (to_d hi) hs ha) hsw hw h1) fun D σ H ⟨ρ, G, fp, c, q⟩ => exprS c q fun op ρ' v G1 H1 f1 fp1 _ g q1 => by
    cases z : toOwn ρ' op with
    | none => rw [z] at q1; exact q1.elim
    | some r =>
      obtain ⟨o2, ρ2⟩ := r
      rw [z] at q1
      simp only [toRS_some] at q1
      obtain ⟨G2, f2, fp2, s2, c2, r2, n2, k2⟩ := GotX.own (G := G1) (H := H1) (fp := f1 ++ fp1) ⟨Stp.refl, g.conf, g.rep, g.nd, g.fr⟩ z
      have q2 := PostS.step s2 Keep.refl q1
      refine ⟨ρ2, G2, fp2, c2, ?_⟩
      cases zo : fo ρ2 with
      | bad => rw [zo] at q2; exact q2
      | exc cc fs =>
        rw [zo] at q2
        exact fun cls d G' H' m gr eh x ef => q2 cls d σ G' H' fp2 m (((Stp.of gr eh : Stp G2 H1 (f2 ++ fp2) G' H' (f2 ++ fp2))).sub fun a h => List.mem_append_right _ h) (c2.grow gr eh x) Keep.refl ef
      | ok w =>
        rw [zo] at q2
        simp only [Rs.thn_ok] at q2
        cases w with
        | tmp _ => exact q2.elim
        | plc ii p =>
          simp only at q2
          intro ov G3 H3 f3 g3
          obtain ⟨ef, v0, h0, ha0⟩ := g3.rep
          subst ef
          have c3 := g3.conf c2
          refine ⟨ρ2, G3, fp2, c3, ?_⟩
          have live : ∀ b ∈ f2, ∃ u, H1 b = some u ∧ NotT u := fun b hb => r2.live b hb
          cases zi : dE fi ρ2 with
          | bad => rw [zi] at q2; exact q2
          | exc cc fs =>
            rw [zi] at q2
            exact fun cls d G' H' m gr eh x ef => q2 cls d σ G' H' fp2 m ((((Stp.of g3.gr g3.eh).trans (Stp.of gr eh)) : Stp G2 H1 (f2 ++ fp2) G' H' (f2 ++ fp2)).sub fun a h => List.mem_append_right _ h) (c3.grow gr eh x) Keep.refl ef
          | ok d =>
            rw [zi] at q2
            simp only [Rs.thn_ok] at q2
            intro iv G4 H4 f4 g4
            have c4 := g4.conf c3
            have ef4 : f4 = [] := g4.rep.1
            have rd : IsD X.K G4 iv d := g4.rep.2
            have st : Stp G2 H1 (f2 ++ fp2) G4 H4 (f2 ++ fp2) := (Stp.of g3.gr g3.eh).trans (Stp.of g4.gr g4.eh)
            have r4 : Rep X.K G4 H4 v o2 f2 := r2.mono (g3.gr.ex.trans g4.gr.ex) fun b hb u hu => g4.eh _ _ (g3.eh _ _ hu)
            have k4 : ∀ b ∈ f2, G4 b = none := fun b hb => by
              obtain ⟨u, h1, h2⟩ := live b hb
              exact g4.gr.old b u (g3.eh _ _ h1) h2 (g3.gr.old b u h1 h2 (k2 b hb))
            have ra : Reps X.K G4 H4 [iv, v] [.dat d, o2] f2 := by
              have z := Reps.cons (.dat rd) (Reps.cons r4 .nil)
              simpa using z
            have qq : PostX X.K X.mg W (muRes M ii p [.dat d, o2] ρ2) σ G2 H1 (f2 ++ fp2) (fun _ H' => D.nx σ H') := by
              cases zm : muRes M ii p [.dat d, o2] ρ2 with
              | bad => rw [zm] at q2; exact q2
              | exc cc fs ρ' =>
                unfold muRes at zm
                split at zm
                · split at zm <;> cases zm
                · cases zm
              | ok oo ρ' =>
                rw [zm] at q2
                intro v' G' H' f' fp' gg
                exact q2 σ G' H' fp' (gg.stp.sub fun a h => List.mem_append_right _ h) gg.conf Keep.refl
            obtain ⟨i', v', e1, q5⟩ := mu_go (r := rOfSet tset) (vs := [iv, v]) mo st c4 h0 (ha0.mono g4.eh) ra n2 k4 qq
            cases e1
            exact q5
def muAug (g : D → D → Rs O) (i : Nat) (fa : FE) : FS := fun ρ => match ρ[i]? with
  | some (some (.dat x)) => (dE fa ρ).thn ρ fun y => fun ρ => (g x y).thn ρ fun o => fun ρ => .ok .nx (ρ.set i (some o))
  | _ => .bad
def AugF (K : PySem.W.Frag) (r : TIp) (g : D → D → Rs O) : Prop := ∀ {mg : Str → Option Value} {W : WX} {G H : Hp} {σ : L2.St} {Q : VK} {x y : V} {dx dy : D},
  Ex G H → IsD K G x dx → IsD K G y dy → Post K mg W (RO K) ((g dx dy).bnd okT) σ G H Q → r x y H Q
theorem ss_aug {kp : List Nat} {i : Nat} {x : Str} {op : Operator} {ti : TIp} {g : D → D → Rs O} {pos pos' : Pos} (hN : X.N.Nodup) (hi : X.N[i]? = some x) (hx : Loc X.env.scope x) (hk : i ∉ kp) (he : EE X W e fo) (hp : PIp X op ti) (hg : AugF X.K ti g)
    (hf : X.fn x = true ∨ X.env.scope.names.lookup x = some .local := by first | exact .inl rfl | exact .inr rfl | assumption) : SS X W kp (.AugAssign (.Name x pos') op e pos) (muAug g i fo) :=
  PSimp (ps_aug hN hi hx (to_d he) hp hf) fun D σ H ⟨ρ, G, fp, c, q⟩ => by
    unfold muAug at q
    cases z : ρ[i]? with
    | none => rw [z] at q; exact q.elim
    | some oo =>
      cases oo with
      | none => rw [z] at q; exact q.elim
      | some o =>
        cases o with
        | node _ _ => rw [z] at q; exact q.elim
        | pck _ => rw [z] at q; exact q.elim
        | dat dx =>
          rw [z] at q
          simp only at q
          obtain ⟨v, f1, pre, post, g1, g2, _⟩ := c.rep.at z
          cases g2 with
          | dat rx =>
            refine ⟨v, g1, pureS (R := RD X.K) c q fun dy w G1 H1 f gdy gg q1 => ?_⟩
            have ef : f = [] := gg.rep.1
            subst ef
            have c1 := gg.conf c
            refine hg (mg := X.mg) (W := W) (σ := σ) gg.x (rx.mono gg.gr.ex) gg.rep.2 ?_
            cases zg : g dx dy with
            | bad => rw [zg] at q1; exact q1
            | exc cc fs =>
              rw [zg] at q1
              exact fun cls d G' H' m gr eh x ef => q1 cls d σ G' H' fp m (Stp.of gr eh) (c1.grow gr eh x) Keep.refl ef
            | ok o =>
              rw [zg] at q1
              simp only [Rs.thn_ok] at q1
              intro v' G2 H2 f2 g2
              have c2 := g2.conf c1
              obtain ⟨fp3, s3, c3⟩ := c2.put (i := i) (show Rep X.K G2 H2 v' o f2 from g2.rep) (nd_join g2.nd c2.nd fun x hx hy => by
                obtain ⟨u, h, _⟩ := c1.rep.live x hy
                rw [(g2.fr x hx).2] at h; cases h) (fun b hb => (g2.fr b hb).1)
              exact q1 (σ.set i (some v')) G2 H2 fp3 ((g2.stp (fp := fp)).trans s3) c3 (Keep.set hk)
end
theorem aug_add {K : PySem.W.Frag} : AugF K (ipI fun i j => i + j) (fun a b => match a, b with
  | .int i, .int j => .ok (.dat (.int (i + j)))
  | _, _ => .bad) := fun {mg W G H σ Q x y dx dy} ex hx hy q => by
  cases hx with
  | int i => cases hy with
    | int j => exact ⟨i, j, rfl, rfl, Post.dt q ex (.int _)⟩
    | _ => exact q.elim
  | _ => exact q.elim
theorem aug_sub {K : PySem.W.Frag} : AugF K (ipI fun i j => i - j) dSub := fun {mg W G H σ Q x y dx dy} ex hx hy q => by
  cases hx with
  | int i => cases hy with
    | int j => exact ⟨i, j, rfl, rfl, Post.dt q ex (.int _)⟩
    | _ => exact q.elim
  | _ => exact q.elim
end FL
namespace FL
open PySem L2
def sRaise (c : Str) : FS := fun ρ => .exc c [] ρ
section
variable {X : Cx} {W : WX} {kp : List Nat}
theorem ss_raise {x m : Str} {j : Nat} {C : Addr} {bmB : List Value} {B newId initId : String} {p p2 pos pos2 : Pos} (hc : X.calm = true) (tk : Takes X W) (F : ExcBaseFacts B newId initId bmB) (q : PySem.W.excIn X.K C bmB newId = true) (gC : X.mg x = some (.ref C)) (kC : PySem.W.keepIn X.K (.ref C) = true)
    (r : Raises X (.ref C)) (hg : Gl X x) (hdb : (x == ("__debug__" : Str)) = false := by decide) : SS X W kp (.Raise (some (.Call (.Name x p) [.Constant (.str m) j p2] [] pos)) none pos2) (sRaise x) :=
  PSimp (ps_raise hc tk (pmk_own F q gC kC r hg hdb)) fun D σ H ⟨ρ, G, fp, c, q⟩ => q (.ref C) none σ G H fp gC Stp.refl c Keep.refl (.inl ⟨rfl, rfl⟩)
end
open Classical in
noncomputable def allA (r : Addr → Option Addr → RS) : RS := if ∀ a d a' d', r a d = r a' d' then r 0 none else .bad
theorem allA_eq {r : Addr → Option Addr → RS} {x : RS} (h : ∀ a d, r a d = x) : allA r = x := by
  unfold allA
  rw [if_pos fun a d a' d' => by rw [h, h], h]
def dropS (i : Nat) : RS → RS
  | .ok (.rt o) ρ => .ok (.rt o) ρ
  | .ok f ρ => .ok f (ρ.set i none)
  | _ => .bad
@[simp] theorem dropS_nx (i : Nat) (ρ : Env) : dropS i (.ok .nx ρ) = .ok .nx (ρ.set i none) := rfl
@[simp] theorem dropS_bk (i : Nat) (ρ : Env) : dropS i (.ok .bk ρ) = .ok .bk (ρ.set i none) := rfl
@[simp] theorem dropS_ct (i : Nat) (ρ : Env) : dropS i (.ok .ct ρ) = .ok .ct (ρ.set i none) := rfl
@[simp] theorem dropS_rt (i : Nat) (o : O) (ρ : Env) : dropS i (.ok (.rt o) ρ) = .ok (.rt o) ρ := rfl
def exD (fs : List (Str × D)) (d : Option Addr) : Option Addr := if fs.isEmpty then none else some (d.getD 0)
theorem ExF.exD {K : PySem.W.Frag} {G H : Hp} {d : Option Addr} {fs : List (Str × D)} (h : ExF K G H d fs) : FL.exD fs d = d := by
  rcases h with ⟨rfl, rfl⟩ | ⟨h1, dx, _, rfl, _⟩
  · rfl
  · cases fs with
    | nil => exact absurd rfl h1
    | cons _ _ => rfl
noncomputable def sTryAs (sub : Str → Option Bool) (i : Nat) (fb : FS) (fsu : Addr → Option Addr → Str → FS) : FS := fun ρ => match fb ρ with
  | .exc c fs ρ' => (match sub c with
    | some true => allA fun a d => dropS i (fsu a (exD fs d) c (ρ'.set i (some (.dat (.exn a (exD fs d) (fs.map (·.1)) (fs.map (·.2)))))))
    | some false => .exc c fs ρ'
    | none => .bad)
  | r => r
def quiet : RS → RS
  | .exc _ _ _ => .bad
  | r => r
def sTryOnly (sub : Str → Option Bool) (fb fsu : FS) : FS := fun ρ => match fb ρ with
  | .exc c fs ρ' => (match sub c with
    | some true => quiet (fsu ρ')
    | some false => .exc c fs ρ'
    | none => .bad)
  | r => r
section
variable {K : PySem.W.Frag} {G H : Hp}
theorem zip_eq {α β : Type} : ∀ {l : List (α × β)} {ns : List α}, l.map (·.1) = ns → ns.zip (l.map (·.2)) = l
  | [], _, h => by subst h; rfl
  | p :: l, _, h => by
    subst h
    simp only [List.map_cons, List.zip_cons_cons]
    rw [zip_eq rfl]
theorem ExF.exn {d : Option Addr} {fs : List (Str × D)} (h : ExF K G H d fs) (a : Addr) : IsD K G (.ref a) (.exn a d (fs.map (·.1)) (fs.map (·.2))) := by
  rcases h with ⟨rfl, rfl⟩ | ⟨hne, dx, xfs, rfl, h1, h2, h3, h4⟩
  · exact .exn (xs := []) rfl (fun n => absurd rfl n) .nil
  · refine .exn (xs := xfs.map (·.2)) ?_ (fun _ => ⟨dx, rfl, ?_⟩) h4
    · rw [← h3]; simp
    · rw [zip_eq h3]; exact h2
end
section
variable {X : Cx} {W : WX} {kp : List Nat} {x n : Str} {cv : Value} {i : Nat} {body suite : List Stmt} {b0 : Stmt} {np pos pos' : Pos} {sub : Str → Option Bool} {fb : FS} {fsu : Addr → Option Addr → Str → FS} {fso : FS}
theorem ss_tryAs (hs : X.stack = X.env :: X.outer) (hf : X.env.frame = some X.env.locals) (hN : X.N.Nodup) (hi : X.N[i]? = some n) (hln : X.env.kindOf n = some .local) (hc : Names X x cv) (tk : Takes X W) (hk : i ∉ kp)
    (hsub : ∀ c cls b, sub c = some b → X.mg c = some cls → PySem.W.exmOne X.K cls cv = some b)
    (hb : ∀ (W : WX) (pn : List (Addr × Obj)) (xe : Value → Shared → Prop), Takes (X.tr pn xe) W → PassesOwn (model X.prog X.w) X.A X.env xe → SB (X.tr pn xe) W kp body fb)
    (hsu : ∀ (a : Addr) (oe : Obj) (cls : Value) (d : Option Addr) (pn : List (Addr × Obj)) (c : Str), Zc cls d oe → (∃ vs, oe.data = .fields vs) → X.mg c = some cls → SB (X.suite a ((a, oe) :: pn)) Wn kp (b0 :: suite) (fsu a d c)) :
    SS X W kp (.Try body [.ExceptHandler (some (.Name x np)) (some n) (b0 :: suite) pos'] [] [] pos) (sTryAs sub i fb fsu) :=
  PSimp (ps_try_as (tb := fun W => tS X.K X.mg W kp fb) (ts := fun a cls d D σ H => ∃ c, X.mg c = some cls ∧ tS X.K X.mg Wn kp (fsu a d c) D σ H) hs hf hN hi hln hc tk hb fun a oe cls d pn hz hfl =>
    ⟨fun pins s σ H D I ⟨c, hm, h⟩ => (hsu a oe cls d pn c hz hfl hm).run pins s σ H D I h⟩) fun D σ H ⟨ρ, G, fp, c, q⟩ => by
    refine ⟨ρ, G, fp, c, ?_⟩
    unfold sTryAs at q
    cases z : fb ρ with
    | bad => rw [z] at q; exact q
    | ok fl ρ' => rw [z] at q; cases fl <;> exact q
    | exc cc fs ρ' =>
      rw [z] at q
      simp only at q
      intro cls d σ' G' H' fp' m s cf k ef
      cases y : sub cc with
      | none => rw [y] at q; exact q.elim
      | some b =>
        rw [y] at q
        refine ⟨b, hsub cc cls b y m, fun hb1 a ha => ?_, fun hb1 => ?_⟩
        · subst hb1
          simp only at q
          refine ⟨cc, m, ?_⟩
          obtain ⟨fp3, s3, c3⟩ := cf.put (i := i) (.dat (ef.exn a)) (by simpa using cf.nd) (fun _ z => by cases z)
          refine ⟨_, G', fp3, c3, ?_⟩
          have q1 := PostS.step (s.trans (by simpa using s3)) (k.trans (Keep.set (x := some (.ref a)) hk)) q
          have q2 : PostS X.K X.mg W kp (dropS i (fsu a d cc (ρ'.set i (some (.dat (.exn a d (fs.map (·.1)) (fs.map (·.2)))))))) D (σ'.set i (some (.ref a))) G' H' fp3 := by
            unfold allA at q1
            split at q1
            · next hall =>
              rw [hall 0 none a d] at q1
              dsimp only at q1
              rw [ef.exD] at q1
              exact q1
            · exact q1.elim
          have ni : ∀ {σ2 σ3 : L2.St}, Keep kp σ2 σ3 → Keep kp σ2 (σ3.set i none) := fun h => h.trans (Keep.set hk)
          cases zz : fsu a d cc (ρ'.set i (some (.dat (.exn a d (fs.map (·.1)) (fs.map (·.2)))))) with
          | bad => rw [zz] at q2; exact q2
          | exc _ _ _ => rw [zz] at q2; exact q2.elim
          | ok fl ρ2 =>
            rw [zz] at q2
            cases fl with
            | rt o => exact q2
            | nx =>
              intro σ2 G2 H2 fp2 s2 c2 k2
              obtain ⟨fp4, s4, c4⟩ := c2.drop i
              exact q2 (σ2.set i none) G2 H2 fp4 (s2.sub s4) c4 (ni k2)
            | bk =>
              intro σ2 G2 H2 fp2 s2 c2 k2
              obtain ⟨fp4, s4, c4⟩ := c2.drop i
              exact q2 (σ2.set i none) G2 H2 fp4 (s2.sub s4) c4 (ni k2)
            | ct =>
              intro σ2 G2 H2 fp2 s2 c2 k2
              obtain ⟨fp4, s4, c4⟩ := c2.drop i
              exact q2 (σ2.set i none) G2 H2 fp4 (s2.sub s4) c4 (ni k2)
        · subst hb1
          exact q cls d σ' G' H' fp' m s cf k ef
theorem ss_tryOnly (hs : X.stack = X.env :: X.outer) (hf : X.env.frame = some X.env.locals) (hc : Names X x cv) (tk : Takes X W)
    (hsub : ∀ c cls b, sub c = some b → X.mg c = some cls → PySem.W.exmOne X.K cls cv = some b)
    (hb : ∀ (W : WX) (pn : List (Addr × Obj)) (xe : Value → Shared → Prop), Takes (X.tr pn xe) W → PassesOwn (model X.prog X.w) X.A X.env xe → SB (X.tr pn xe) W kp body fb)
    (hsu : ∀ (a : Addr) (oe : Obj) (cls : Value) (d : Option Addr) (pn : List (Addr × Obj)), Zc cls d oe → (∃ vs, oe.data = .fields vs) → SB (X.suite a ((a, oe) :: pn)) Wn kp (b0 :: suite) fso) :
    SS X W kp (.Try body [.ExceptHandler (some (.Name x np)) none (b0 :: suite) pos'] [] [] pos) (sTryOnly sub fb fso) :=
  PSimp (ps_try_only (tb := fun W => tS X.K X.mg W kp fb) (ts := fun a cls d D σ H => tS X.K X.mg Wn kp fso D σ H) hs hf hc tk hb hsu) fun D σ H ⟨ρ, G, fp, c, q⟩ => by
    refine ⟨ρ, G, fp, c, ?_⟩
    unfold sTryOnly at q
    cases z : fb ρ with
    | bad => rw [z] at q; exact q
    | ok fl ρ' => rw [z] at q; cases fl <;> exact q
    | exc cc fs ρ' =>
      rw [z] at q
      simp only at q
      intro cls d σ' G' H' fp' m s cf k ef
      cases y : sub cc with
      | none => rw [y] at q; exact q.elim
      | some b =>
        rw [y] at q
        refine ⟨b, hsub cc cls b y m, fun hb1 a ha => ?_, fun hb1 => ?_⟩
        · subst hb1
          simp only at q
          refine ⟨ρ', G', fp', cf, ?_⟩
          have q1 := PostS.step s k q
          cases zz : fso ρ' with
          | bad => rw [zz] at q1; exact q1
          | exc _ _ _ => rw [zz] at q1; exact q1.elim
          | ok fl ρ2 =>
            rw [zz] at q1
            cases fl <;> exact q1
        · subst hb1
          exact q cls d σ' G' H' fp' m s cf k ef
end

def dIsE (a0 : Addr) (d0 : Option Addr) (b : Option Bool) (d : D) : Rs O := match d with
  | .exn a dx ns _ => if a = a0 ∧ dx = d0 ∧ (d0 = none ∨ ns ≠ []) then toRs (b.map fun k => .dat (.bl k)) else .bad
  | _ => .bad
def eIsE (a0 : Addr) (d0 : Option Addr) (b : Option Bool) (fa : FE) : FE := fun ρ => (dE fa ρ).bnd fun d => (dIsE a0 d0 b d).bnd okT
def XdAt (d0 : Option Addr) (H : Hp) : Prop := d0 = none ∨ ∃ dd fs, d0 = some dd ∧ H dd = some (.xd fs)
theorem XdAt.of {K : PySem.W.Frag} {G H : Hp} {v : V} {a : Addr} {d0 : Option Addr} {ns : List Str} {l : List D} (r : IsD K G v (.exn a d0 ns l)) (x : Ex G H) (h : d0 = none ∨ ns ≠ []) : XdAt d0 H := by
  rcases h with h | h
  · exact .inl h
  · cases r with
    | exn e1 e2 e3 =>
      obtain ⟨dx, hd, hg⟩ := e2 h
      exact .inr ⟨dx, _, hd, x _ _ hg⟩
theorem ins_at {X : Cx} {a D : Addr} {oe : Obj} {d0 : Option Addr} {pn pins : List (Addr × Obj)} {σ : L2.St} {H : Hp} {s : Shared} (I : Inv (X.suite a ((a, oe) :: pn)) pins σ H s) (hz : Zc (.ref D) d0 oe) (hf : ∃ vs, oe.data = .fields vs) (hx : XdAt d0 H) : ∃ od, PySem.W.InstAt s.heap a oe D od := by
  obtain ⟨ha, _⟩ := I.pin (a, oe) (List.mem_append_left _ List.mem_cons_self)
  obtain ⟨vs, hv⟩ := hf
  have nc : PySem.W.notCls oe = true := by unfold PySem.W.notCls; rw [hv] <;> rfl
  rcases hx with rfl | ⟨dd, fs, rfl, hd⟩
  · exact ⟨none, ha, hz.1, nc, by rw [hz.2]; trivial⟩
  · have ob : ObjOk X.prog X.w H s.heap dd (.xd fs) := I.hok dd _ hd
    obtain ⟨mA, hns, _⟩ := ob
    obtain ⟨od, _, _, ho, _⟩ := hns
    exact ⟨some od, ha, hz.1, nc, by rw [hz.2]; exact ho⟩
theorem kx_of {K : PySem.W.Frag} {D x : Addr} {ox : Obj} {od : Option Obj} (C : ExcC K D) : PySem.W.KitX K (.ref x) (.ref D) (fun h => PySem.W.InstAt h x ox D od) :=
  PySem.W.kitx_exc (by obtain ⟨cd, hc, _⟩ := PySem.W.any_some C.hd; rw [hc]; rfl) C.hg C.hk C.hs C.ha C.hn C.ht C.hm
def rIsX (K : PySem.W.Frag) (D a : Addr) (d0 : Option Addr) : List V → Hp → VK → Prop := fun xs H Q => XdAt d0 H ∧ rIsE K D a xs H Q
theorem call_isX {X : Cx} {a D : Addr} {d0 : Option Addr} {oe : Obj} {pn : List (Addr × Obj)} (C : ExcC X.K D) (hz : Zc (.ref D) d0 oe) (hf : ∃ vs, oe.data = .fields vs) : CallR (X.suite a ((a, oe) :: pn)) (.builtin "isinstance") (rIsX X.K D a d0) := by
  intro pins s σ H xs us Q I r h
  obtain ⟨hx, c, cv, b, rfl, hcv, e, q⟩ := h
  obtain ⟨u1, u2, rfl, r1, r2⟩ := vals2 r
  obtain rfl : u1 = Value.ref a := r1
  obtain rfl := hcv _ r2
  obtain ⟨od, J⟩ := ins_at I hz hf hx
  exact PySem.W.kia_one (kx_of C) I.kIn J e (fun z => nomatch z) fun tk => ⟨.bl b, H, I.kept (t' := tk) fun _ _ z => z, rfl, q⟩
section
variable {X : Cx} {W : WX} {a0 C : Addr} {d0 : Option Addr} {oe : Obj} {pn : List (Addr × Obj)} {e : Expr} {fa : FE} {nx nt : Str} {b : Option Bool} {p pt pos : Pos} {cv : V} {cu : Value}
theorem ee_isE (T : ExcC X.K C) (hz : Zc (.ref C) d0 oe) (hf : ∃ vs, oe.data = .fields vs) (ha : EE (X.suite a0 ((a0, oe) :: pn)) W e fa) (hg : Gl X nx) (hm : X.mg nx = none) (hv : bootBuiltins nx = some (.builtin "isinstance"))
    (hcls : PE (X.suite a0 ((a0, oe) :: pn)) (.Name nt pt) (tC cv)) (hcv : ∀ u, RelV cv u → u = cu) (hb : ∀ k, b = some k → PySem.W.kitOne X.K (.ref C) cu = some k)
    (hn : nx ≠ "__name__" := by decide) (hdb : (nx == ("__debug__" : Str)) = false := by decide)
    (hs1 : starEach [e, .Name nt pt] X.env = (false, eval e X.env) :: starEach [.Name nt pt] X.env := by rfl) (hs2 : starEach [.Name nt pt] X.env = (false, eval (.Name nt pt) X.env) :: starEach [] X.env := by rfl)
    (hpl : (backTo pos (starEach [.Name nt pt] X.env)).any (·.1) = false := by rfl) :
    EE (X.suite a0 ((a0, oe) :: pn)) W (.Call (.Name nx p) [e, .Name nt pt] [] pos) (eIsE a0 d0 b fa) :=
  PEimp (pe_callB (X := X.suite a0 ((a0, oe) :: pn)) (call_isX T hz hf) hg hm hv (pa_cons (to_d ha) (pa_cons hcls pa_nil hs2) hs1) hn hdb hs1 hpl) fun σ H Q ⟨ρ, G, fp, c, q⟩ =>
    seqE (R := RD X.K) c q fun d v G1 H1 f _ g q1 => by
      cases d with
      | exn a dx ns l =>
        have rd : IsD X.K G1 v (.exn a dx ns l) := g.rep.2
        have ev : v = .ref a := by cases rd; rfl
        have qq : Post X.K X.mg W (RO X.K) (((if a = a0 ∧ dx = d0 ∧ (d0 = none ∨ ns ≠ []) then toRs (b.map fun k => .dat (.bl k)) else .bad : Rs O)).bnd okT) σ G1 H1 Q := q1
        clear q1
        by_cases z : a = a0 ∧ dx = d0 ∧ (d0 = none ∨ ns ≠ [])
        · rw [if_pos z] at qq
          have hxd : XdAt d0 H1 := XdAt.of (by rw [z.2.1] at rd; exact rd) g.x z.2.2
          rw [z.1] at ev
          cases b with
          | none => exact qq.elim
          | some k => exact ⟨hxd, cv, cu, k, by rw [ev], hcv, hb k rfl, Post.dt qq g.x (.bl _)⟩
        · rw [if_neg z] at qq; exact qq.elim
      | _ => exact q1.elim
end
def rIsM (K : PySem.W.Frag) (D a : Addr) (d0 : Option Addr) : List V → Hp → VK → Prop := fun xs H Q => XdAt d0 H ∧ ∃ (tp : Addr) (cs : List V) (ws : List Value) (b : Bool), xs = [.ref a, .ref tp] ∧ H tp = some (.tup cs) ∧ Paired ClsV cs ws ∧ PySem.W.kitAny K (.ref D) ws = some b ∧ Q (.bl b) H
theorem call_isM {X : Cx} {a D : Addr} {d0 : Option Addr} {oe : Obj} {pn : List (Addr × Obj)} (C : ExcC X.K D) (hz : Zc (.ref D) d0 oe) (hf : ∃ vs, oe.data = .fields vs) :
    CallR (X.suite a ((a, oe) :: pn)) (.builtin "isinstance") (rIsM X.K D a d0) := fun pins s σ H xs us Q I r h => by
  obtain ⟨hx, tp, cs, ws, b, rfl, hT, k, e, q⟩ := h
  obtain ⟨u1, u2, rfl, r1, r2⟩ := vals2 r
  cases (show u1 = Value.ref a from r1)
  cases (show u2 = Value.ref tp from r2)
  obtain ⟨od, hi⟩ := ins_at I hz hf hx
  have hob : ObjOk X.prog X.w H s.heap tp (.tup cs) := I.hok tp _ hT
  obtain ⟨_, its, rv, o, g1, g2, n, g3⟩ := hob
  have ew := ClsV.all k rv
  subst ew
  obtain ⟨y1, y2, y3, y4⟩ := o
  dsimp only at g2 g3
  subst g2 g3
  refine PySem.W.kia_tup (kx_of C) I.kIn hi g1 e (by intro z; cases z) ?_
  exact fun tk => ⟨.bl b, H, I.kept (t' := tk) fun _ _ z => z, rfl, q⟩
def tCs : List V → TA
  | [] => tNil
  | c :: cs => tCons (tC c) (tCs cs)
theorem tCs_eq {σ : L2.St} {H : Hp} : ∀ {cs : List V} {Q : List V → Hp → Prop}, Q cs H → tCs cs σ H Q
  | [], Q, h => h
  | c :: cs, Q, h => tCs_eq (Q := fun xs H2 => Q (c :: xs) H2) h
section
variable {X : Cx} {W : WX} {a0 C : Addr} {d0 : Option Addr} {oe : Obj} {pn : List (Addr × Obj)} {e : Expr} {fa : FE} {nx : Str} {b : Option Bool} {p pt pos : Pos} {cs : List V} {ws : List Value} {es : List Expr} {k0 : Nat}
theorem ee_isM (T : ExcC X.K C) (hz : Zc (.ref C) d0 oe) (hf : ∃ vs, oe.data = .fields vs) (ha : EE (X.suite a0 ((a0, oe) :: pn)) W e fa) (hg : Gl X nx) (hm : X.mg nx = none) (hv : bootBuiltins nx = some (.builtin "isinstance"))
    (hcls : PA (X.suite a0 ((a0, oe) :: pn)) es (tCs cs)) (hcv : Paired ClsV cs ws) (hl : cs.length ≤ sizeLine) (hb : ∀ k, b = some k → PySem.W.kitAny X.K (.ref C) ws = some k)
    (hn : nx ≠ "__name__" := by decide) (hdb : (nx == ("__debug__" : Str)) = false := by decide)
    (hs1 : starEach [e, .Tuple es k0 pt] X.env = (false, eval e X.env) :: starEach [.Tuple es k0 pt] X.env := by rfl) (hs2 : starEach [.Tuple es k0 pt] X.env = (false, eval (.Tuple es k0 pt) X.env) :: starEach [] X.env := by rfl)
    (hpl : (backTo pos (starEach [.Tuple es k0 pt] X.env)).any (·.1) = false := by rfl) :
    EE (X.suite a0 ((a0, oe) :: pn)) W (.Call (.Name nx p) [e, .Tuple es k0 pt] [] pos) (eIsE a0 d0 b fa) :=
  PEimp (pe_callB (X := X.suite a0 ((a0, oe) :: pn)) (call_isM T hz hf) hg hm hv (pa_cons (to_d ha) (pa_cons (pe_tup hcls) pa_nil hs2) hs1) hn hdb hs1 hpl) fun σ H Q ⟨ρ, G, fp, c, q⟩ =>
    seqE (R := RD X.K) c q fun d v G1 H1 f _ g q1 => by
      refine tCs_eq ⟨hl, fun p0 hp => ?_⟩
      cases d with
      | exn a dx ns l =>
        have rd : IsD X.K G1 v (.exn a dx ns l) := g.rep.2
        have ev : v = .ref a := by cases rd; rfl
        have qq : Post X.K X.mg W (RO X.K) (((if a = a0 ∧ dx = d0 ∧ (d0 = none ∨ ns ≠ []) then toRs (b.map fun k => .dat (.bl k)) else .bad : Rs O)).bnd okT) σ G1 H1 Q := q1
        clear q1
        by_cases z : a = a0 ∧ dx = d0 ∧ (d0 = none ∨ ns ≠ [])
        · rw [if_pos z] at qq
          have hxd : XdAt d0 H1 := XdAt.of (by rw [z.2.1] at rd; exact rd) g.x z.2.2
          rw [z.1] at ev
          cases b with
          | none => exact qq.elim
          | some k => exact ⟨hxd.imp id fun ⟨dd, fs, h1, h2⟩ => ⟨dd, fs, h1, Ex.new hp _ _ h2⟩, p0, cs, ws, k, by rw [ev], L2.upd_same, hcv, hb k rfl, Post.dt (Post.step Gr.refl (Ex.new hp) qq) (g.x.trans (Ex.new hp)) (.bl _)⟩
        · rw [if_neg z] at qq; exact qq.elim
      | _ => exact q1.elim
end
end FL
namespace FL
open PySem L2
def keyD : D → Option Key
  | .int i => some (.inl i)
  | .str s => some (.inr s)
  | _ => none
def keysD : List D → Option (List Key)
  | [] => some []
  | d :: ds => match keyD d, keysD ds with
    | some k, some ks => some (k :: ks)
    | _, _ => none
def kidIx (t : Tag) (n : Nat) (y : D) : Option Nat := match t, y with
  | .lst, .int i => ixN n i
  | .dct ks, y => (keyD y).bind fun k => ks.findIdx? fun z => decide (z = k)
  | .dcT ks, .tup l => (keysD l).bind fun k => ks.findIdx? fun z => decide (z = k)
  | _, _ => none
def dIx2 : D → D → Rs O
  | .obj t l, y => match (kidIx t l.length y).bind (l[·]?) with
    | some d => .ok (.dat d)
    | none => .bad
  | x, y => dIx x y
def eIx (fa fb : FE) : FE := fun ρ => (fa ρ).bnd fun o => match o with
  | .tmp o => (toRs (freeze o)).bnd fun x => (rdE fb ρ).bnd fun y => (dIx2 x y).bnd okT
  | .plc i p => (rdE fb ρ).bnd fun y => match getP ρ i p with
    | some (.node t l) => (match kidIx t l.length y with
      | some j => (match l[j]? with
        | some (.dat d) => .ok (.tmp (.dat d))
        | some (.node _ _) => .ok (.plc i (p ++ [j]))
        | some (.pck _) => .bad
        | none => .bad)
      | none => .bad)
    | _ => .bad
section
variable {K : PySem.W.Frag} {G H : Hp}
theorem keyD_v {v : V} {d : D} {k : Key} (h : RdV K G H v d) (e : keyD d = some k) : v = kV k := by
  cases d with
  | int i => cases e; exact h.int
  | str s => cases e; exact h.str
  | _ => cases e
theorem keysD_v : ∀ {vs : List V} {ds : List D} {ks : List Key}, IsDs K G vs ds → keysD ds = some ks → vs = ks.map kV
  | _, _, _, .nil, e => by cases e; rfl
  | _, _, _, .cons (d := d) (ds := ds) h t, e => by
    unfold keysD at e
    cases z1 : keyD d with
    | none => rw [z1] at e; cases e
    | some k =>
      cases z2 : keysD ds with
      | none => rw [z1, z2] at e; cases e
      | some ks =>
        rw [z1, z2] at e; cases e
        rw [keysD_v t z2, keyD_v (.dat h : RdV K G G _ _) z1]
        rfl
theorem zip_val {κ : Type} [DecidableEq κ] : ∀ {ks : List κ} {xs : List V} {k : κ} {j : Nat} {v : V}, ks.length = xs.length → (ks.findIdx? fun z => decide (z = k)) = some j → xs[j]? = some v → valV (ks.zip xs) k = some v
  | [], _, _, _, _, _, e, _ => by cases e
  | z :: ks, [], _, _, _, h, _, _ => by simp at h
  | z :: ks, x :: xs, k, j, v, h, e, hv => by
    rw [List.findIdx?_cons] at e
    by_cases q : z = k
    · rw [if_pos (decide_eq_true q)] at e
      cases e
      rw [List.zip_cons_cons, valV_pos q]
      simpa using hv
    · rw [if_neg (by simpa using q)] at e
      cases e2 : ks.findIdx? fun z => decide (z = k) with
      | none => rw [e2] at e; cases e
      | some i =>
        rw [e2] at e
        simp only [Option.map_some, Option.some.injEq] at e
        subst e
        rw [List.zip_cons_cons, valV_neg q]
        exact zip_val (by simpa using h) e2 (by simpa using hv)
theorem zip_none {κ : Type} [DecidableEq κ] : ∀ {ks : List κ} {xs : List V} {k : κ}, ks.length = xs.length → (ks.findIdx? fun z => decide (z = k)) = none → valV (ks.zip xs) k = none
  | [], _, _, _, _ => by simp [valV]
  | z :: ks, [], _, h, _ => by simp at h
  | z :: ks, x :: xs, k, h, e => by
    rw [List.findIdx?_cons] at e
    by_cases q : z = k
    · rw [if_pos (decide_eq_true q)] at e; cases e
    · rw [if_neg (by simpa using q)] at e
      rw [List.zip_cons_cons, valV_neg q]
      refine zip_none (by simpa using h) ?_
      cases e2 : ks.findIdx? fun z => decide (z = k) with
      | none => rfl
      | some i => rw [e2] at e; cases e
theorem kid_get {t : Tag} {xs : List V} {ho : HO} {a : Addr} {y : V} {dy : D} {j : Nat} {v : V} (ex : Ex G H) (ha : H a = some ho) (hd : Holds t xs ho) (hy : RdV K G H y dy) (e : kidIx t xs.length dy = some j) (hv : xs[j]? = some v) :
    (∃ p zs i w, V.ref a = .ref p ∧ y = .int i ∧ SqL K H p zs ∧ atI zs i = some w ∧ w = v) ∨ DGet H a y (some v) := by
  cases t with
  | lst =>
    cases hd
    cases dy with
    | int i =>
      refine .inl ⟨a, xs, i, v, rfl, hy.int, SqL.of ha, ?_, rfl⟩
      unfold atI
      rw [show ixN xs.length i = some j from e]
      exact hv
    | _ => cases e
  | dct ks =>
    obtain ⟨hl, rfl⟩ := hd
    have e' : (keyD dy).bind (fun k => ks.findIdx? fun z => decide (z = k)) = some j := e
    cases z : keyD dy with
    | none => rw [z] at e'; cases e'
    | some k =>
      rw [z] at e'
      refine .inr (.inl ⟨_, k, .of ha, keyD_v hy z, ?_⟩)
      exact (zip_val hl e' hv).symm
  | dcT ks =>
    obtain ⟨hl, rfl⟩ := hd
    cases dy with
    | tup l =>
      have e' : (keysD l).bind (fun k => ks.findIdx? fun z => decide (z = k)) = some j := e
      cases z : keysD l with
      | none => rw [z] at e'; cases e'
      | some k =>
        rw [z] at e'
        obtain ⟨b, zs, rfl, _, h2, h3⟩ := hy.tup ex
        rw [keysD_v h3 z] at h2
        refine .inr (.inr ⟨_, k, b, .of ha, rfl, ex _ _ h2, ?_⟩)
        exact (zip_val hl e' hv).symm
    | _ => cases e
  | ins C ns => cases e
end
def rIxD2 (K : PySem.W.Frag) : R2 := fun x y H Q => rIx K x y H Q ∨ ∃ a v, x = .ref a ∧ DGet H a y (some v) ∧ Q v H
theorem ix_dict {X : Cx} (hu : X.A.units + 1 < cLine) : IxR X (fun x y H Q => ∃ a v, x = .ref a ∧ DGet H a y (some v) ∧ Q v H) := by
  intro value slice pins s σ H x y v u Q I rx ry h hsub
  obtain ⟨a, w, rfl, g, q⟩ := h
  obtain rfl : v = Value.ref a := rx
  exact PyProof.Rows.tail_any (dict_typeIs I g) PySem.F.slot_dict_getitem.lookup (d_getItem hu I g ry fun w' s3 I3 rw' => ⟨w, H, I3, rw', q⟩) hsub
theorem ix_all2 {X : Cx} (hu : X.A.units + 1 < cLine) : IxR X (rIxD2 X.K) := ix_seq.or (ix_dict hu)
section
variable {K : PySem.W.Frag}
theorem ix_F2 : OpF K (rIxD2 K) dIx2 := fun {mg W G H σ Q x y dx dy} ex hx hy q => by
  by_cases ho : ∃ t l, dx = .obj t l
  · obtain ⟨t, l, rfl⟩ := ho
    simp only [dIx2] at q
    cases z : (kidIx t l.length dy).bind (l[·]?) with
    | none => rw [z] at q; exact q.elim
    | some d =>
      rw [z] at q
      cases z2 : kidIx t l.length dy with
      | none => rw [z2] at z; cases z
      | some j =>
        rw [z2] at z
        have z : l[j]? = some d := z
        have core : ∀ {a : Addr} {ho : HO} {xs : List V}, x = .ref a → H a = some ho → Holds t xs ho → IsDs K G xs l → rIxD2 K x y H Q := fun {a ho xs} ea h1 h2 h3 => by
          subst ea
          obtain ⟨v, g1, g2⟩ := h3.get z
          rcases kid_get ex h1 h2 hy (by rw [h3.length]; exact z2) g1 with ⟨p, zs, i, w, e1, e2, e3, e4, e5⟩ | g
          · subst e5
            exact .inl (.inl ⟨p, zs, i, w, e1, e2, e3, e4, Post.dt q ex g2⟩)
          · exact .inr ⟨a, v, rfl, g, Post.dt q ex g2⟩
        generalize ed : D.obj t l = d0 at hx
        cases hx with
        | dat h =>
          subst ed
          cases h with
          | obj h1 h2 h3 => exact core rfl (ex _ _ h1) h2 h3
        | top h1 h2 h3 =>
          rename_i a ho t2 xs ds
          cases t2 with
          | lst => cases ed
          | dct ks => cases ed; exact core rfl h1 h2 h3
          | dcT ks => cases ed; exact core rfl h1 h2 h3
          | ins C ns => cases ed; exact core rfl h1 h2 h3
  · have e : dIx2 dx dy = dIx dx dy := by
      cases dx <;> first | rfl | exact absurd ⟨_, _, rfl⟩ ho
    rw [e] at q
    exact .inl (ix_F ex hx hy q)
end
section
variable {X : Cx} {W : WX} {a b : Expr} {fa fb : FE} {pos : Pos}
theorem At.snoc {H : Hp} {a : Addr} {ho : HO} {v : V} {j : Nat} (h : H a = some ho) (hk : (kids ho)[j]? = some v) : ∀ {p : List Nat} {v0 : V}, At H v0 p (.ref a) → At H v0 (p ++ [j]) v
  | [], v0, e => by
    have e : v0 = .ref a := e
    exact ⟨a, ho, v, e, h, hk, rfl⟩
  | k :: p, v0, ⟨b, ho2, v2, e1, e2, e3, e4⟩ => ⟨b, ho2, v2, e1, e2, e3, At.snoc h hk e4⟩
theorem imp_ix {K : PySem.W.Frag} {mg : Str → Option Value} {σ : L2.St} {H : Hp} {Q : VK} (h : tG K mg W (RO K) (eIx fa fb) σ H Q) :
    tOp (rIxD2 K) (tG K mg W (RO K) fa) (tG K mg W (RR K) (rdE fb)) σ H Q := by
  obtain ⟨ρ, G, fp, c, q⟩ := h
  unfold eIx at q
  refine ⟨ρ, G, fp, c, ?_⟩
  cases e : fa ρ with
  | exc cc fs => rw [e] at q; exact q
  | bad => rw [e] at q; exact q
  | ok o =>
    rw [e] at q
    simp only [Rs.bnd_ok] at q
    intro v G1 H1 f g1
    cases o with
    | tmp o =>
      cases z : freeze o with
      | none => simp only [z] at q; exact q.elim
      | some x =>
        simp only [z, toRs_some, Rs.bnd_ok] at q
        obtain ⟨G2, g2⟩ := Got.read c g1 (show rd ρ (.tmp o) = some x from z)
        exact seqE (R := RR K) (g2.conf c) (Post.step g2.gr g2.eh q) fun y w G3 H3 f3 _ g3 q3 => ix_F2 g3.x (g2.rep.2.mono g3.gr.ex g3.eh) g3.rep.2 q3
    | plc i p =>
      obtain ⟨ef, v0, h0, ha⟩ := g1.rep
      refine seqE (R := RR K) (g1.conf c) (Post.step g1.gr g1.eh q) fun y w G3 H3 f3 _ g3 q3 => ?_
      have c3 := g3.conf (g1.conf c)
      have ha3 := ha.mono g3.eh
      split at q3
      · next t l hp =>
        split at q3
        · next j hj =>
          obtain ⟨a, ho, xs, fl, rfl, h1, h2, h3⟩ := plc_at c3 h0 ha3 hp
          have hlen := h3.length
          have hkids : kids ho = xs := h2.kids
          split at q3
          · next d hd =>
            obtain ⟨v', fd, k1, k2, k3⟩ := h3.get hd
            cases k2 with
            | dat kd =>
              have fin : Q v' H3 := q3 v' G3 H3 [] ⟨Gr.refl, Ex.refl _, c3.ex, .dat kd, List.nodup_nil, fun _ z => by cases z⟩
              rcases kid_get c3.ex h1 h2 g3.rep.2 (by rw [hlen]; exact hj) k1 with ⟨p', zs, i', w', e1, e2, e3, e4, e5⟩ | g
              · subst e5
                exact .inl (.inl ⟨p', zs, i', w', e1, e2, e3, e4, fin⟩)
              · exact .inr ⟨a, v', rfl, g, fin⟩
          · next t' l' hd =>
            obtain ⟨v', fd, k1, k2, k3⟩ := h3.get hd
            have fin : Q v' H3 := q3 v' G3 H3 [] ⟨Gr.refl, Ex.refl _, c3.ex, ⟨rfl, v0, h0, At.snoc h1 (by rw [hkids]; exact k1) ha3⟩, List.nodup_nil, fun _ z => by cases z⟩
            rcases kid_get c3.ex h1 h2 g3.rep.2 (by rw [hlen]; exact hj) k1 with ⟨p', zs, i', w', e1, e2, e3, e4, e5⟩ | g
            · subst e5
              exact .inl (.inl ⟨p', zs, i', w', e1, e2, e3, e4, fin⟩)
            · exact .inr ⟨a, v', rfl, g, fin⟩
          · exact q3.elim
          · exact q3.elim
        · exact q3.elim
      · exact q3.elim
theorem ee_ix2 (hu : X.A.units + 1 < cLine) (ha : EE X W a fa) (hb : EE X W b fb) (hs : PlainIx b) : EE X W (.Subscript a b pos) (eIx fa fb) :=
  PEimp (pe_ix (ix_all2 hu) ha (to_rd hb) hs) fun _ _ _ q => imp_ix q
end
end FL
namespace FL
open PySem L2
def onePlc : List Opd → Option (Nat × Nat × List Nat)
  | [] => none
  | .plc i p :: os => if os.all isTmp = true then some (0, i, p) else none
  | .tmp _ :: os => (onePlc os).map fun q => (q.1 + 1, q.2)
def xArgs (ρ : Env) : List Opd → Option (List O)
  | [] => some []
  | .tmp o :: os => match freeze o, xArgs ρ os with
    | some d, some l => some (.dat d :: l)
    | _, _ => none
  | .plc i p :: os => match getP ρ i p, xArgs ρ os with
    | some o, some l => some (o :: l)
    | _, _ => none
def xBack (j i : Nat) (p : List Nat) (ρ : Env) : RF → RX
  | .ok o os' => (match os'[j]? with
    | some o' => .ok (.tmp o) (putP ρ i p o')
    | none => .bad)
  | .exc c fs os' => (match os'[j]? with
    | some o' => .exc c fs (putP ρ i p o')
    | none => .bad)
  | .bad => .bad
def xCall (F : List O → RF) (fa : FOs) : FX := fun ρ => match fa ρ with
  | .ok os => (match onePlc os, xArgs ρ os with
    | some (j, i, p), some args => xBack j i p ρ (F args)
    | none, _ => lft (eCall F fa) ρ
    | _, none => .bad)
  | .exc c fs => .exc c fs ρ
  | .bad => .bad
section
variable {K : PySem.W.Frag} {mg : Str → Option Value} {W : WX} {G G' H H' : Hp} {σ : L2.St} {ρ : Env} {fp : List Addr}
theorem one_at {vs : List V} {os : List Opd} {f : List Addr} (r : ROs K G H σ vs os f) : ∀ {j i : Nat} {p : List Nat}, onePlc os = some (j, i, p) → ∃ v0 w, vs[j]? = some w ∧ σ[i]? = some (some v0) ∧ At H v0 p w := by
  induction r with
  | nil => intro j i p e; cases e
  | cons h t ih =>
    rename_i v o f1 vs os f2
    intro j i p e
    cases o with
    | plc i2 p2 =>
      unfold onePlc at e
      split at e
      · cases e
        obtain ⟨_, v0, h0, ha⟩ := h
        exact ⟨v0, v, rfl, h0, ha⟩
      · cases e
    | tmp o =>
      unfold onePlc at e
      cases z : onePlc os with
      | none => rw [z] at e; cases e
      | some q =>
        rw [z] at e
        obtain ⟨j2, i2, p2⟩ := q
        cases e
        obtain ⟨v0, w, h1, h2, h3⟩ := ih z
        exact ⟨v0, w, by simpa using h1, h2, h3⟩
theorem tmps_data {vs : List V} {os : List Opd} {f : List Addr} (r : ROs K G H σ vs os f) : ∀ {args : List O} {g : List Addr}, os.all isTmp = true → xArgs ρ os = some args → (∀ a ∈ f, a ∈ g) → (∀ a ∈ g, G a = none) → Reps K (fz G H g) H vs args [] := by
  induction r with
  | nil => intro args g _ e _ _; unfold xArgs at e; cases e; exact .nil
  | cons h t ih =>
    rename_i v o f1 vs os f2
    intro args g ht e s n
    cases o with
    | plc i p => rw [List.all_cons] at ht; cases ht
    | tmp o =>
      rw [List.all_cons, Bool.and_eq_true] at ht
      unfold xArgs at e
      cases z : freeze o with
      | none => rw [z] at e; cases e
      | some d =>
        cases y : xArgs ρ os with
        | none => rw [z, y] at e; cases e
        | some l =>
          rw [z, y] at e
          cases e
          have q := Reps.cons (K := K) (.dat (Rep.freeze (show Rep K G H v o f1 from h) z g (fun a ha => s a (List.mem_append_left _ ha)) n)) (ih ht.2 y (fun a ha => s a (List.mem_append_right _ ha)) n)
          simpa using q
theorem one_args {vs : List V} {os : List Opd} {f : List Addr} (r : ROs K G H σ vs os f) : ∀ {args : List O} {g : List Addr} {j i : Nat} {p : List Nat} {w : V} {o1 : O} {fm : List Addr}, onePlc os = some (j, i, p) → xArgs ρ os = some args → (∀ a ∈ f, a ∈ g) → (∀ a ∈ g, G a = none) →
    vs[j]? = some w → getP ρ i p = some o1 → Rep K (fz G H g) H w o1 fm → Reps K (fz G H g) H vs args fm := by
  induction r with
  | nil => intro args g j i p w o1 fm e; cases e
  | cons h t ih =>
    rename_i v o f1 vs os f2
    intro args g j i p w o1 fm e ex s n hw ho r1
    cases o with
    | plc i2 p2 =>
      unfold onePlc at e
      split at e
      · next hall =>
        cases e
        cases hw
        unfold xArgs at ex
        rw [ho] at ex
        cases y : xArgs ρ os with
        | none => rw [y] at ex; cases ex
        | some l =>
          rw [y] at ex
          cases ex
          have q := Reps.cons r1 (tmps_data t hall y (fun a ha => s a (List.mem_append_right _ ha)) n)
          simpa using q
      · cases e
    | tmp o =>
      unfold onePlc at e
      cases z : onePlc os with
      | none => rw [z] at e; cases e
      | some q =>
        rw [z] at e
        obtain ⟨j2, i2, p2⟩ := q
        cases e
        unfold xArgs at ex
        cases z2 : freeze o with
        | none => rw [z2] at ex; cases ex
        | some d =>
          cases y : xArgs ρ os with
          | none => rw [z2, y] at ex; cases ex
          | some l =>
            rw [z2, y] at ex
            cases ex
            have q := Reps.cons (K := K) (.dat (Rep.freeze (show Rep K G H v o f1 from h) z2 g (fun a ha => s a (List.mem_append_left _ ha)) n)) (ih z y (fun a ha => s a (List.mem_append_right _ ha)) n (by simpa using hw) ho r1)
            simpa using q
theorem back_conf {fm pre post f fo f' fp' f1 : List Addr} {G1 H1 : Hp} {i : Nat} {p : List Nat} {o' : O} {w : V} (c1 : Conf K G1 H1 σ ρ fp) (e1 : fp = pre ++ fm ++ post)
    (back : ∀ {G' H' : Hp} {o' : O} {f1' : List Addr}, Ex G1 G' → (∀ a, a ∈ pre ∨ a ∈ post → ∀ u, H1 a = some u → H' a = some u) → Rep K G' H' w o' f1' → RepE K G' H' σ (putP ρ i p o') (pre ++ f1' ++ post))
    (gn : ∀ a ∈ f1, G1 a = none) (nf : ∀ a ∈ fp, a ∉ f1) (s : Stp (fz G1 H1 f1) H1 fm G' H' (f ++ fp')) (x : Ex G' H') (ro : Rep K G' H' w o' fo) (hp : (fo ++ f').Perm fp') (nd : (f ++ fp').Nodup) (fr : ∀ b ∈ f ++ fp', G' b = none) :
    Conf K G' H' σ (putP ρ i p o') (pre ++ fo ++ post) ∧ (f ++ (pre ++ fo ++ post)).Nodup ∧ ∀ b ∈ f ++ (pre ++ fo ++ post), b ∈ f ++ fp' ∨ b ∈ fp := by
  have nd1 := c1.nd
  rw [e1] at nd1
  have nd2 : (f ++ (fo ++ f')).Nodup := (List.Perm.append_left f hp).nodup_iff.mpr nd
  have mem : ∀ b, b ∈ fo → b ∈ fp' := fun b hb => hp.mem_iff.mp (List.mem_append_left _ hb)
  have liv : ∀ b, b ∈ pre ∨ b ∈ post → (∃ u, H1 b = some u ∧ NotT u) ∧ b ∉ fm := fun b hb => by
    refine ⟨?_, ?_⟩
    · obtain ⟨u, h1, h2⟩ := c1.rep.live b (by rw [e1]; simp only [List.mem_append]; rcases hb with h | h <;> simp [h])
      exact ⟨u, h1, h2⟩
    · simp only [List.nodup_append, List.mem_append] at nd1
      grind
  have new : ∀ b ∈ f ++ fp', b ∉ pre ∧ b ∉ post := fun b hb => by
    rcases s.sb b hb with k | k
    · exact ⟨fun z => (liv b (.inl z)).2 k, fun z => (liv b (.inr z)).2 k⟩
    · refine ⟨fun z => ?_, fun z => ?_⟩
      · obtain ⟨⟨u, h1, _⟩, _⟩ := liv b (.inl z); rw [k] at h1; cases h1
      · obtain ⟨⟨u, h1, _⟩, _⟩ := liv b (.inr z); rw [k] at h1; cases h1
  have keep : ∀ a, a ∈ pre ∨ a ∈ post → ∀ u, H1 a = some u → H' a = some u := fun a ha u e => s.fr a u e (liv a ha).2
  have ndAll : (f ++ (pre ++ fo ++ post)).Nodup := by
    have new' : ∀ b, b ∈ f ∨ b ∈ fo → b ∉ pre ∧ b ∉ post := fun b hb => new b (by
      rcases hb with h | h
      · exact List.mem_append_left _ h
      · exact List.mem_append_right _ (mem b h))
    simp only [List.nodup_append, List.mem_append] at nd1 nd2 ⊢
    grind
  refine ⟨⟨x, back ((fz_ex gn).trans s.eg) keep ro, (nd_parts ndAll).2.1, fun a ha => ?_⟩, ndAll, fun b hb => ?_⟩
  · simp only [List.mem_append] at ha
    have old : a ∈ pre ∨ a ∈ post → G' a = none := fun k => by
      obtain ⟨⟨u, h1, h2⟩, h3⟩ := liv a k
      have hfp : a ∈ fp := by rw [e1]; simp only [List.mem_append]; rcases k with h | h <;> simp [h]
      refine s.og a u h1 h3 h2 ?_
      rw [fz_not (nf a hfp)]
      exact c1.fr a hfp
    rcases ha with (k | k) | k
    · exact old (.inl k)
    · exact fr a (List.mem_append_right _ (mem a k))
    · exact old (.inr k)
  · simp only [List.mem_append] at hb ⊢
    rw [e1]
    simp only [List.mem_append]
    have := mem b
    grind
theorem tX_lftK {fe : FE} {Q : V → Hp → Prop} (h : tX K mg W (lft fe) σ H Q) : tG K mg W (RO K) fe σ H Q := by
  obtain ⟨ρ, G, fp, c, q⟩ := h
  refine ⟨ρ, G, fp, c, ?_⟩
  unfold lft at q
  cases z : fe ρ with
  | ok o =>
    rw [z] at q
    exact fun v G' H' f g => q v G' H' f fp (g.toX c)
  | exc cc fs =>
    rw [z] at q
    exact fun cls d G' H' m gr eh x ef => q cls d G' H' fp m (Stp.of gr eh) (c.grow gr eh x) ef
  | bad => rw [z] at q; exact q
theorem xcall_read {n : Nat} {F : List O → RF} {fa : FOs} {Q : V → Hp → Prop} {H : Hp} (hn : LenO n fa) (h : tX K mg W (xCall F fa) σ H Q) : tCallSD (spF K mg n F) [] (WE W) (tG K mg W (ROs K) fa) σ H Q := by
  obtain ⟨ρ, G, fp, c, q⟩ := h
  unfold xCall at q
  cases z : fa ρ with
  | exc cc fs =>
    rw [z] at q
    refine ⟨ρ, G, fp, c, ?_⟩
    rw [z]
    exact fun cls d G' H' m gr eh x ef => q cls d G' H' fp m (Stp.of gr eh) (c.grow gr eh x) ef
  | bad => rw [z] at q; exact q.elim
  | ok os =>
    rw [z] at q
    simp only at q
    split at q
    · next j i p args e1 e2 =>
      refine ⟨ρ, G, fp, c, ?_⟩
      rw [z]
      intro vs G1 H1 f1 g1
      have c1 := g1.conf c
      have rr : ROs K G1 H1 σ vs os f1 := g1.rep
      have hl : (vs ++ []).length = n := by rw [List.append_nil, rr.length, hn ρ os z]
      have gn : ∀ a ∈ f1, G1 a = none := fun a h => (g1.fr a h).1
      have nof : ∀ a u, H a = some u → a ∉ f1 := fun a u e m => by
        have := (g1.fr a m).2
        rw [e] at this; cases this
      have nf : ∀ a ∈ fp, a ∉ f1 := fun a ha => by
        obtain ⟨u, h1, _⟩ := c.rep.live a ha
        exact nof a u h1
      obtain ⟨v0, w, hw, h0, ha⟩ := one_at rr e1
      cases y : getP ρ i p with
      | none =>
        exfalso
        clear q
        have : ∀ {os : List Opd} {j : Nat} {args : List O}, onePlc os = some (j, i, p) → xArgs ρ os = some args → False := by
          intro os
          induction os with
          | nil => intro j args e; cases e
          | cons o os ih =>
            intro j args e1 e2
            cases o with
            | plc i2 p2 =>
              unfold onePlc at e1
              split at e1
              · cases e1
                unfold xArgs at e2
                rw [y] at e2; cases e2
              · cases e1
            | tmp o =>
              unfold onePlc at e1
              cases z1 : onePlc os with
              | none => rw [z1] at e1; cases e1
              | some q =>
                rw [z1] at e1
                obtain ⟨j2, i2, p2⟩ := q
                cases e1
                unfold xArgs at e2
                cases z2 : freeze o with
                | none => rw [z2] at e2; cases e2
                | some d =>
                  cases z3 : xArgs ρ os with
                  | none => rw [z2, z3] at e2; cases e2
                  | some l => exact ih z1 z3
        exact this e1 e2
      | some o1 =>
        obtain ⟨pre, fm, post, e3, r1, back⟩ := c1.rep.lensP c1.ex h0 ha y
        have fmp : ∀ a ∈ fm, a ∈ fp := fun a h => by rw [e3]; simp [h]
        have fmn : ∀ a ∈ fm, a ∉ f1 := fun a h => nf a (fmp a h)
        have r2 : Rep K (fz G1 H1 f1) H1 w o1 fm := r1.mono (fz_ex gn) fun _ _ _ e => e
        have ra := one_args rr e1 e2 (g := f1) (fun _ h => h) gn hw y r2
        have ndm : fm.Nodup := by
          have nd1 := c1.nd
          rw [e3] at nd1
          simp only [List.nodup_append] at nd1
          exact nd1.1.2.1
        refine ⟨hl, args, fz G1 H1 f1, fm, fz_in g1.x, by rw [List.append_nil]; exact ra, ndm, fun a h => by rw [fz_not (fmn a h)]; exact c1.fr a (fmp a h), ?_⟩
        have s0 : Stp G H fp (fz G1 H1 f1) H1 fp := ⟨g1.gr.ex.trans (fz_ex gn), fun a u e _ => g1.eh a u e, fun a u e => ⟨u, g1.eh a u e⟩, fun _ h => .inl h, fun a u e _ t k => by
          rw [fz_not (nof a u e)]
          exact g1.gr.old a u e t k⟩
        cases wF : F args with
        | bad => rw [wF] at q; exact q.elim
        | ok o os' =>
          rw [wF] at q
          unfold xBack at q
          simp only at q
          intro v G' H' f fp' s x r rs nd fr
          split at q
          · next o' ho' =>
            rw [List.append_nil] at rs
            obtain ⟨w2, fo, f', k1, k2, k3, k4⟩ := rs.erase ho'
            rw [hw] at k1; cases k1
            obtain ⟨cf, nda, sub⟩ := back_conf (f := f) c1 e3 back gn nf s x k2 k4 nd fr
            have st := s0.trans (s.sup fmp)
            refine q v G' H' f (pre ++ fo ++ post) ⟨⟨st.eg, st.fr, st.lv, fun b hb => ?_, st.og⟩, cf, r, nda, fun b hb => fr b (List.mem_append_left _ hb)⟩
            rcases sub b hb with k | k
            · exact st.sb b k
            · exact .inl k
          · exact q.elim
        | exc cc fs os' =>
          rw [wF] at q
          unfold xBack at q
          simp only at q
          intro cls d G' H' fp' m s x rs nd fr ef
          split at q
          · next o' ho' =>
            rw [List.append_nil] at rs
            obtain ⟨w2, fo, f', k1, k2, k3, k4⟩ := rs.erase ho'
            rw [hw] at k1; cases k1
            have s' : Stp (fz G1 H1 f1) H1 fm G' H' ([] ++ fp') := by rw [List.nil_append]; exact s
            obtain ⟨cf, nda, sub⟩ := back_conf (f := []) c1 e3 back gn nf s' x k2 k4 (by rw [List.nil_append]; exact nd) (by rw [List.nil_append]; exact fr)
            have st := s0.trans (s.sup fmp)
            refine q cls d G' H' (pre ++ fo ++ post) m ⟨st.eg, st.fr, st.lv, fun b hb => ?_, st.og⟩ cf ef
            rcases sub b (by rw [List.nil_append]; exact hb) with k | k
            · rw [List.nil_append] at k
              exact st.sb b k
            · exact .inl k
          · exact q.elim
    · exact call_read hn (tX_lftK ⟨ρ, G, fp, c, q⟩)
    · exact q.elim
end
section
variable {X : Cx} {W : WX} {CX : CXT} {k n : Nat} {f : Addr} {fd : FuncData} {ps : List Str} {F : List O → RF} {fa : FOs} {x : Str} {p pos : Pos} {e : Expr} {es : List Expr}
theorem xx_call (ok : FnOk X.prog X.w X.K X.mg X.base (L2.CX X.prog X.w) k f fd ps (spF X.K X.mg n F)) (hr : Room k X.A) (hg : Gl X x) (hm : X.mg x = some (.ref f)) (hk : PySem.W.keepIn X.K (.ref f) = true) (hb : Binds X.K fd ps []) (tk : Takes X W) (hn : LenO n fa)
    (ha : EOs X W (e :: es) fa) (hdb : (x == ("__debug__" : Str)) = false := by decide) (he : starEach (e :: es) X.env = (false, eval e X.env) :: starEach es X.env := by rfl) (hpl : (backTo pos (starEach es X.env)).any (·.1) = false := by rfl) :
    XX X W (.Call (.Name x p) (e :: es) [] pos) (xCall F fa) := PEimp (pe_callSD ok hr hg hm hk hb .nil (fun σ => passAt tk σ) ha hdb he hpl) fun σ H Q h => xcall_read hn h
end
end FL
namespace FL
open PySem L2
def flatD : D → Bool
  | .int _ => true
  | .str _ => true
  | .bl _ => true
  | .non => true
  | _ => false
def inD : D → D → Option Bool
  | x, .lst l => if okE 8 x = true ∧ okEs 7 l = true then some (l.any fun z => eqD z x) else none
  | x, .scr l => if okE 8 x = true ∧ okEs 7 l = true then some (l.any fun z => eqD z x) else none
  | x, .tup l => if flatD x = true ∧ l.all flatD = true then some (l.any fun z => eqD z x) else none
  | x, .obj (.dct ks) l => if ks.length = l.length then (keyD x).map fun k => (ks.findIdx? fun z => decide (z = k)).isSome else none
  | .tup x, .obj (.dcT ks) l => if ks.length = l.length then (keysD x).map fun k => (ks.findIdx? fun z => decide (z = k)).isSome else none
  | .str a, .str b => if a.cps.size = 1 then some (decide (a.cps.getD 0 0 ∈ b.cps.toList)) else none
  | _, _ => none
def kidIn (t : Tag) (l : List O) (x : D) : Option Bool := match t with
  | .lst => (dats l).bind fun ds => inD x (.lst ds)
  | .dct ks => if ks.length = l.length then (keyD x).map fun k => (ks.findIdx? fun z => decide (z = k)).isSome else none
  | .dcT ks => if ks.length = l.length then (match x with
    | .tup x => (keysD x).map fun k => (ks.findIdx? fun z => decide (z = k)).isSome
    | _ => none) else none
  | .ins _ _ => none
def eIn (neg : Bool) (fa fb : FE) : FE := fun ρ => (rdE fa ρ).bnd fun x => (fb ρ).bnd fun o => match o with
  | .tmp o => (toRs ((freeze o).bind (inD x))).bnd fun b => .ok (.tmp (.dat (.bl (b != neg))))
  | .plc i p => (match getP ρ i p with
    | some (.node t l) => (toRs (kidIn t l x)).bnd fun b => .ok (.tmp (.dat (.bl (b != neg))))
    | _ => .bad)
def rMem (K : PySem.W.Frag) (neg : Bool) : R2 := fun x y H Q =>
  (∃ d ds, Dp K H x d ∧ Dp K H y (.list ds) ∧ SeqAt.shaped d = true ∧ SeqAt.shaped (.list ds) = true ∧ Q (.bl ((ds.any fun z => PyData.eqv z d) != neg)) H) ∨
  (∃ p xs, y = .ref p ∧ SqT K H p xs ∧ flatV x = true ∧ xs.all flatV = true ∧ Q (.bl (inV x xs != neg)) H) ∨
  (∃ a o, y = .ref a ∧ DGet H a x o ∧ Q (.bl (o.isSome != neg)) H) ∨
  (∃ (c : Nat) (z : Str), x = .str ⟨#[c]⟩ ∧ y = .str z ∧ Q (.bl (decide (c ∈ z.cps.toList) != neg)) H)
theorem mem_in {X : Cx} (hu : X.A.units + 65 < cLine) : OpR X (compareOp .In) (rMem X.K false) := by
  intro pins s σ H x y v u Q I rx ry q
  rcases q with ⟨d, ds, h1, h2, h3, h4, q⟩ | ⟨p, xs, h1, h2, h3, h4, q⟩ | ⟨a, o, h1, h2, q⟩ | ⟨c, z, h1, h2, q⟩
  · exact op_inD hu pins s σ H x y v u Q I rx ry ⟨d, ds, h1, h2, h3, h4, by simpa using q⟩
  · exact op_in_seq pins s σ H x y v u Q I rx ry ⟨p, xs, h1, .inr h2, h3, h4, by simpa using q⟩
  · subst h1
    obtain rfl : u = Value.ref a := ry
    exact d_in (by omega) I h2 rx fun s' I' => ⟨.bl o.isSome, H, I', rfl, by simpa using q⟩
  · exact op_in_sign pins s σ H x y v u Q I rx ry ⟨c, z, h1, h2, by simpa using q⟩
theorem mem_notIn {X : Cx} (hu : X.A.units + 65 < cLine) : OpR X (compareOp .NotIn) (rMem X.K true) := by
  intro pins s σ H x y v u Q I rx ry q
  have e : ∀ b : Bool, (b != true) = !b := fun b => by cases b <;> rfl
  rcases q with ⟨d, ds, h1, h2, h3, h4, q⟩ | ⟨p, xs, h1, h2, h3, h4, q⟩ | ⟨a, o, h1, h2, q⟩ | ⟨c, z, h1, h2, q⟩
  · exact op_notInD hu pins s σ H x y v u Q I rx ry ⟨d, ds, h1, h2, h3, h4, by rw [← e]; exact q⟩
  · exact op_notIn_seq pins s σ H x y v u Q I rx ry ⟨p, xs, h1, .inr h2, h3, h4, by rw [e] at q; simpa using q⟩
  · subst h1
    obtain rfl : u = Value.ref a := ry
    exact d_notIn (by omega) I h2 rx fun s' I' => ⟨.bl (!o.isSome), H, I', rfl, by rw [← e]; exact q⟩
  · exact op_notIn_sign pins s σ H x y v u Q I rx ry ⟨c, z, h1, h2, by rw [← e]; exact q⟩
section
variable {K : PySem.W.Frag} {G H : Hp}
theorem flat_v {v : V} {d : D} (h : IsD K G v d) (e : flatD d = true) : flatV v = true := by
  cases h <;> first | rfl | cases e
theorem flat_vs : ∀ {vs : List V} {ds : List D}, IsDs K G vs ds → ds.all flatD = true → vs.all flatV = true
  | _, _, .nil, _ => rfl
  | _, _, .cons h t, e => by
    rw [List.all_cons, Bool.and_eq_true] at e ⊢
    exact ⟨flat_v h e.1, flat_vs t e.2⟩
theorem flat_eq {v w : V} {d e : D} (h : IsD K G v d) (k : IsD K G w e) (hd : flatD d = true) (he : flatD e = true) : eqV v w = eqD d e := by
  cases h <;> first | (cases hd; done) | (cases k <;> first | rfl | cases he)
theorem flat_in {w : V} {e : D} (k : IsD K G w e) (he : flatD e = true) : ∀ {vs : List V} {ds : List D}, IsDs K G vs ds → ds.all flatD = true → inV w vs = ds.any fun z => eqD z e
  | _, _, .nil, _ => rfl
  | _, _, .cons h t, q => by
    rw [List.all_cons, Bool.and_eq_true] at q
    show ((eqV _ w) || inV w _) = _
    rw [List.any_cons, flat_eq h k q.1 he, flat_in k he t q.2]
theorem RdV.flat {v : V} {d : D} (h : RdV K G H v d) (e : flatD d = true) : IsD K G v d := by
  cases h with
  | dat h => exact h
  | top h1 h2 h3 => rename_i t xs ds; cases t <;> cases e
theorem any_py {d : D} (hd : okE 8 d = true) : ∀ {l : List D}, okEs 7 l = true → ((pyDs l).any fun z => PyData.eqv z (pyD d)) = l.any fun z => eqD z d
  | [], _ => rfl
  | x :: l, h => by
    rw [okEs_c] at h
    rw [Bool.and_eq_true] at h
    show ((PyData.eqv (pyD x) (pyD d)) || _) = _
    rw [List.any_cons, any_py hd h.2, eqD_py 8 x d (okE_up h.1) hd]
where
  okEs_c {n : Nat} {x : D} {l : List D} : okEs n (x :: l) = (okE n x && okEs n l) := by cases n <;> rfl
  okE_up {x : D} (h : okE 7 x = true) : okE 8 x = true := okE_mono 7 x h
  okE_mono : ∀ (n : Nat) (x : D), okE n x = true → okE (n + 1) x = true
    | n, .non, _ => rfl
    | n, .bl _, _ => rfl
    | n, .int _, _ => rfl
    | n, .str s, h => by
      cases n <;> exact h
    | 0, .tup l, h => by cases h
    | n + 1, .tup l, h => okEs_mono n l h
    | 0, .lst l, h => by cases h
    | n + 1, .lst l, h => okEs_mono n l h
    | 0, .scr l, h => by cases h
    | n + 1, .scr l, h => okEs_mono n l h
    | n, .obj _ _, h => by cases n <;> cases h
    | n, .exn _ _ _ _, h => by cases n <;> cases h
  okEs_mono : ∀ (n : Nat) (l : List D), okEs n l = true → okEs (n + 1) l = true
    | n, [], _ => rfl
    | n, x :: l, h => by
      rw [okEs_c] at h ⊢
      rw [Bool.and_eq_true] at h ⊢
      exact ⟨okE_mono n x h.1, okEs_mono n l h.2⟩
end
end FL
namespace FL
open PySem L2
section
variable {K : PySem.W.Frag} {G H : Hp}
theorem zip_isSome {κ : Type} [DecidableEq κ] {ks : List κ} {xs : List V} {k : κ} (h : ks.length = xs.length) : (valV (ks.zip xs) k).isSome = (ks.findIdx? fun z => decide (z = k)).isSome := by
  cases e : ks.findIdx? fun z => decide (z = k) with
  | none => rw [zip_none h e]; rfl
  | some j =>
    obtain ⟨hlt, _⟩ := List.findIdx?_eq_some_iff_findIdx_eq.mp e
    have hlt2 : j < xs.length := by omega
    rw [zip_val h e (List.getElem?_eq_getElem hlt2)]
    rfl
theorem key_in {ks : List Key} {xs : List V} {a : Addr} {x : V} {dx : D} {k : Key} (ha : H a = some (.dK (ks.zip xs))) (hl : ks.length = xs.length) (hx : RdV K G H x dx) (z : keyD dx = some k) : ∃ o, DGet H a x o ∧ o.isSome = (ks.findIdx? fun z => decide (z = k)).isSome :=
  ⟨_, .inl ⟨_, k, .of ha, keyD_v hx z, rfl⟩, zip_isSome hl⟩
theorem keys_in {ks : List (List Key)} {xs : List V} {a : Addr} {x : V} {l : List D} {k : List Key} (ex : Ex G H) (ha : H a = some (.dT (ks.zip xs))) (hl : ks.length = xs.length) (hx : RdV K G H x (.tup l)) (z : keysD l = some k) : ∃ o, DGet H a x o ∧ o.isSome = (ks.findIdx? fun z => decide (z = k)).isSome := by
  obtain ⟨b, zs, rfl, _, h2, h3⟩ := hx.tup ex
  rw [keysD_v h3 z] at h2
  exact ⟨_, .inr ⟨_, k, b, .of ha, rfl, ex _ _ h2, rfl⟩, zip_isSome hl⟩
theorem RdV.obj {v : V} {t : Tag} {l : List D} (x : Ex G H) (h : RdV K G H v (.obj t l)) : ∃ a ho xs, v = .ref a ∧ H a = some ho ∧ Holds t xs ho ∧ IsDs K G xs l := by
  generalize e : D.obj t l = d at h
  cases h with
  | dat h => subst e; cases h with | obj h1 h2 h3 => exact ⟨_, _, _, rfl, x _ _ h1, h2, h3⟩
  | top h1 h2 h3 => rename_i a ho t2 xs ds; cases t2 <;> cases e <;> exact ⟨_, _, _, rfl, h1, h2, h3⟩
theorem mem_lst {x y : V} {dx dy : D} {l : List D} {neg : Bool} {Q : VK} (ex : Ex G H) (hx : RdV K G H x dx) (hy : RdV K G H y dy) (hd : dy = .lst l ∨ dy = .scr l) (h1 : okE 8 dx = true) (h2 : okEs 7 l = true) (q : Q (.bl ((l.any fun z => eqD z dx) != neg)) H) : rMem K neg x y H Q := by
  have o2 : okE 8 dy = true := by rcases hd with rfl | rfl <;> exact h2
  have p2 : pyD dy = .list (pyDs l) := by rcases hd with rfl | rfl <;> rfl
  have s2 := okE_shaped (by decide : (8 : Nat) ≤ 64) o2
  have d2 := hy.dp ex o2
  rw [p2] at s2 d2
  exact .inl ⟨_, _, hx.dp ex h1, d2, okE_shaped (by decide) h1, s2, by rw [any_py h1 h2]; exact q⟩
theorem mem_data {x y : V} {dx dy : D} {b neg : Bool} {Q : VK} (ex : Ex G H) (hx : RdV K G H x dx) (hy : RdV K G H y dy) (e : inD dx dy = some b) (q : Q (.bl (b != neg)) H) : rMem K neg x y H Q := by
  unfold inD at e
  split at e
  · next l =>
    split at e
    · next h => cases e; exact mem_lst ex hx hy (.inl rfl) h.1 h.2 q
    · cases e
  · next l =>
    split at e
    · next h => cases e; exact mem_lst ex hx hy (.inr rfl) h.1 h.2 q
    · cases e
  · next l =>
    split at e
    · next h =>
      cases e
      obtain ⟨p, xs, rfl, h1, _, h3⟩ := hy.tup ex
      have fx := hx.flat h.1
      exact .inr (.inl ⟨p, xs, rfl, h1, flat_v fx h.1, flat_vs h3 h.2, by rw [flat_in fx h.1 h3 h.2]; exact q⟩)
    · cases e
  · next ks l =>
    split at e
    · next hl =>
      cases z : keyD dx with
      | none => rw [z] at e; cases e
      | some k =>
        rw [z] at e; cases e
        obtain ⟨a, ho, xs, rfl, h1, h2, h3⟩ := hy.obj ex
        obtain ⟨hl2, rfl⟩ := h2
        obtain ⟨o, g1, g2⟩ := key_in h1 hl2 hx z
        exact .inr (.inr (.inl ⟨a, o, rfl, g1, by rw [g2]; exact q⟩))
    · cases e
  · next x0 ks l =>
    split at e
    · next hl =>
      cases z : keysD x0 with
      | none => rw [z] at e; cases e
      | some k =>
        rw [z] at e; cases e
        obtain ⟨a, ho, xs, rfl, h1, h2, h3⟩ := hy.obj ex
        obtain ⟨hl2, rfl⟩ := h2
        obtain ⟨o, g1, g2⟩ := keys_in ex h1 hl2 hx z
        exact .inr (.inr (.inl ⟨a, o, rfl, g1, by rw [g2]; exact q⟩))
    · cases e
  · next a0 b0 =>
    split at e
    · next h =>
      cases e
      have e1 : a0 = ⟨#[a0.cps.getD 0 0]⟩ := by
        obtain ⟨⟨l⟩⟩ := a0
        match l, h with
        | [c], _ => rfl
      refine .inr (.inr (.inr ⟨a0.cps.getD 0 0, b0, ?_, hy.str, q⟩))
      rw [hx.str]
      exact congrArg V.str e1
    · cases e
  · cases e
theorem mem_place {x : V} {dx : D} {t : Tag} {l : List O} {ho : HO} {xs : List V} {fl : List Addr} {a : Addr} {b neg : Bool} {Q : VK} (ex : Ex G H) (hx : RdV K G H x dx) (h1 : H a = some ho) (h2 : Holds t xs ho) (h3 : Reps K G H xs l fl) (e : kidIn t l dx = some b) (q : Q (.bl (b != neg)) H) : rMem K neg x (.ref a) H Q := by
  unfold kidIn at e
  cases t with
  | lst =>
    simp only at e
    cases z : dats l with
    | none => rw [z] at e; cases e
    | some ds =>
      rw [z] at e
      exact mem_data ex hx (.top (t := .lst) h1 h2 (dats_is h3 z)) e q
  | dct ks =>
    simp only at e
    split at e
    · next hl =>
      cases z : keyD dx with
      | none => rw [z] at e; cases e
      | some k =>
        rw [z] at e; cases e
        obtain ⟨hl2, rfl⟩ := h2
        obtain ⟨o, g1, g2⟩ := key_in h1 hl2 hx z
        exact .inr (.inr (.inl ⟨a, o, rfl, g1, by rw [g2]; exact q⟩))
    · cases e
  | dcT ks =>
    simp only at e
    split at e
    · next hl =>
      split at e
      · next x0 =>
        cases z : keysD x0 with
        | none => rw [z] at e; cases e
        | some k =>
          rw [z] at e; cases e
          obtain ⟨hl2, rfl⟩ := h2
          obtain ⟨o, g1, g2⟩ := keys_in ex h1 hl2 hx z
          exact .inr (.inr (.inl ⟨a, o, rfl, g1, by rw [g2]; exact q⟩))
      · cases e
    · cases e
  | ins C ns => cases e
end
section
variable {X : Cx} {W : WX} {a b : Expr} {fa fb : FE} {pos : Pos} {neg : Bool}
theorem imp_in {K : PySem.W.Frag} {mg : Str → Option Value} {σ : L2.St} {H : Hp} {Q : VK} (h : tG K mg W (RO K) (eIn neg fa fb) σ H Q) :
    tOp (rMem K neg) (tG K mg W (RR K) (rdE fa)) (tG K mg W (RO K) fb) σ H Q := by
  obtain ⟨ρ, G, fp, c, q⟩ := h
  unfold eIn at q
  refine seqE (R := RR K) c q fun x v G1 H1 f _ g1 q1 => ?_
  refine ⟨ρ, G1, fp, g1.conf c, ?_⟩
  cases e : fb ρ with
  | exc cc fs => rw [e] at q1; exact q1
  | bad => rw [e] at q1; exact q1
  | ok o =>
    rw [e] at q1
    simp only [Rs.bnd_ok] at q1
    intro w G2 H2 f2 g2
    have c2 := g2.conf (g1.conf c)
    have hx2 : RdV K G2 H2 v x := g1.rep.2.mono g2.gr.ex g2.eh
    have q2 := Post.step g2.gr g2.eh q1
    cases o with
    | tmp o =>
      simp only at q2
      cases z : freeze o with
      | none => rw [z] at q2; exact q2.elim
      | some y =>
        rw [z] at q2
        cases z2 : inD x y with
        | none => simp only [Option.bind_some, z2, toRs_none, Rs.bnd_bad] at q2; exact q2.elim
        | some r =>
          simp only [Option.bind_some, z2, toRs_some, Rs.bnd_ok] at q2
          obtain ⟨G3, g3⟩ := Got.read (g1.conf c) g2 (show rd ρ (.tmp o) = some y from z)
          have hx3 : RdV K G3 H2 v x := g1.rep.2.mono g3.gr.ex g3.eh
          have c3 := g3.conf (g1.conf c)
          refine mem_data g3.x hx3 g3.rep.2 z2 ?_
          have q3 := Post.step g3.gr g3.eh q1
          simp only [z, Option.bind_some, z2, toRs_some, Rs.bnd_ok] at q3
          exact q3 _ G3 H2 [] ⟨Gr.refl, Ex.refl _, g3.x, .dat (.bl _), List.nodup_nil, fun _ z => by cases z⟩
    | plc i p =>
      simp only at q2
      obtain ⟨ef, v0, h0, ha⟩ := g2.rep
      split at q2
      · next t l hp =>
        cases z2 : kidIn t l x with
        | none => simp only [z2, toRs_none, Rs.bnd_bad] at q2; exact q2.elim
        | some r =>
          simp only [z2, toRs_some, Rs.bnd_ok] at q2
          obtain ⟨a, ho, xs, fl, rfl, h1, h2, h3⟩ := plc_at c2 h0 ha hp
          refine mem_place c2.ex hx2 h1 h2 h3 z2 ?_
          exact q2 _ G2 H2 [] ⟨Gr.refl, Ex.refl _, c2.ex, .dat (.bl _), List.nodup_nil, fun _ z => by cases z⟩
      · exact q2.elim
theorem ee_in (hu : X.A.units + 65 < cLine) (ha : EE X W a fa) (hb : EE X W b fb) (hm : behindInMarks .In b = false) : EE X W (.Compare a [.In] [b] pos) (eIn false fa fb) :=
  PEimp (pe_cmpR (mem_in hu) (to_rd ha) hb hm) fun _ _ _ q => imp_in q
theorem ee_notIn (hu : X.A.units + 65 < cLine) (ha : EE X W a fa) (hb : EE X W b fb) (hm : behindInMarks .NotIn b = false) : EE X W (.Compare a [.NotIn] [b] pos) (eIn true fa fb) :=
  PEimp (pe_cmpR (mem_notIn hu) (to_rd ha) hb hm) fun _ _ _ q => imp_in q
theorem et_in (hu : X.A.units + 65 < cLine) (ha : EE X W a fa) (hb : EE X W b fb) (hm : behindInMarks .In b = false) : ET X W (.Compare a [.In] [b] pos) (bE (eIn false fa fb)) :=
  PTimp (pt_cmpR (mem_in hu) (to_rd ha) hb hm) fun _ _ _ q => imp_in (imp_b q)
theorem et_notIn (hu : X.A.units + 65 < cLine) (ha : EE X W a fa) (hb : EE X W b fb) (hm : behindInMarks .NotIn b = false) : ET X W (.Compare a [.NotIn] [b] pos) (bE (eIn true fa fb)) :=
  PTimp (pt_cmpR (mem_notIn hu) (to_rd ha) hb hm) fun _ _ _ q => imp_in (imp_b q)
end
def eDnew (tup : Bool) : FE := fun _ => .ok (.tmp (.node (if tup = true then .dcT [] else .dct []) []))
section
variable {X : Cx} {W : WX} {pos : Pos}
theorem ee_dnewK : EE X W (.Dict [] [] pos) (eDnew false) := PEimp pe_dnewK fun σ H Q ⟨ρ, G, fp, c, q⟩ p hn => by
  refine q (.ref p) G (upd H p (.dK [])) [p] ⟨Gr.refl, Ex.new hn, c.ex.trans (Ex.new hn), ?_, by simp, fun b hb => ?_⟩
  · exact Rep.node upd_same ⟨rfl, rfl⟩ .nil
  · rw [List.mem_singleton.mp hb]; exact ⟨L2.Same.free c.ex hn, hn⟩
theorem ee_dnewT : EE X W (.Dict [] [] pos) (eDnew true) := PEimp pe_dnewT fun σ H Q ⟨ρ, G, fp, c, q⟩ p hn => by
  refine q (.ref p) G (upd H p (.dT [])) [p] ⟨Gr.refl, Ex.new hn, c.ex.trans (Ex.new hn), ?_, by simp, fun b hb => ?_⟩
  · exact Rep.node upd_same ⟨rfl, rfl⟩ .nil
  · rw [List.mem_singleton.mp hb]; exact ⟨L2.Same.free c.ex hn, hn⟩
def eD1 (fk fv : FE) : FE := fun ρ => (dE fk ρ).bnd fun k => (fv ρ).bnd fun o => match keyD k, o with
  | some k, .tmp o => .ok (.tmp (.node (.dct [k]) [o]))
  | _, _ => .bad
theorem ee_d1 {k v : Expr} {fk fv : FE} (hk : EE X W k fk) (hv : EE X W v fv) : EE X W (.Dict [some k] [v] pos) (eD1 fk fv) :=
  PEimp (pe_disp (pps_cons (to_d hk) hv pps_nil) rfl rfl (by simp) (by simp)) fun σ H Q ⟨ρ, G, fp, c, q⟩ p hn => by
    have gp : G p = none := L2.Same.free c.ex hn
    have c0 : Conf X.K G (upd H p (.dK [])) σ ρ fp := c.grow Gr.refl (Ex.new hn) (c.ex.trans (Ex.new hn))
    have q0 := Post.step (G1 := G) (H1 := upd H p (.dK [])) Gr.refl (Ex.new hn) q
    unfold eD1 at q0
    refine seqE (R := RD X.K) c0 q0 fun dk vk G1 H1 f1 e1 g1 q1 => seqE (R := RO X.K) (g1.conf c0) q1 fun o vv G2 H2 f2 e2 g2 q2 => ?_
    cases z : keyD dk with
    | none => rw [z] at q2; cases o <;> exact q2.elim
    | some kk =>
      rw [z] at q2
      cases o with
      | plc i p => exact q2.elim
      | tmp o =>
        have hp2 : H2 p = some (.dK []) := g2.eh _ _ (g1.eh _ _ upd_same)
        have nt : NotT (.dK [] : HO) := by
          refine ⟨fun ys e => ?_, fun ob u e => ?_⟩
          · cases e
          · cases e
        have gp1 : G1 p = none := g1.gr.old p _ upd_same nt gp
        have gp2 : G2 p = none := g2.gr.old p _ (g1.eh _ _ upd_same) nt gp1
        have pf : p ∉ f2 := fun m => by
          have := (g2.fr p m).2
          rw [g1.eh _ _ upd_same] at this; cases this
        have hkv : vk = kV kk := keyD_v (.dat g1.rep.2 : RdV X.K G1 H1 vk dk) z
        refine ⟨hp2, [(kk, vv)], by rw [hkv]; rfl, by simp, ?_⟩
        have em : mergeK [] [(kk, vv)] = [(kk, vv)] := rfl
        rw [em]
        have keep : ∀ a, a ≠ p → ∀ u, H2 a = some u → upd H2 p (.dK [(kk, vv)]) a = some u := fun a ha u e => by rw [upd_ne ha]; exact e
        have r2 : Rep X.K G2 (upd H2 p (.dK [(kk, vv)])) vv o f2 := (show Rep X.K G2 H2 vv o f2 from g2.rep).mono (Ex.refl _) fun a ha u e => keep a (fun k => pf (k ▸ ha)) u e
        have er : eD1 fk fv ρ = .ok (.tmp (.node (.dct [kk]) [o])) := by
          unfold eD1
          rw [e1]
          simp only [Rs.bnd_ok]
          rw [e2]
          simp only [Rs.bnd_ok, z]
        rw [er] at q
        have eh2 : Ex H H2 := (Ex.new hn).trans (g1.eh.trans g2.eh)
        have hne : ∀ a u, H a = some u → a ≠ p := fun a u e k => by rw [k, hn] at e; cases e
        have gg := g1.gr.trans g1.eh g2.gr
        have rn : Rep X.K G2 (upd H2 p (.dK [(kk, vv)])) (.ref p) (.node (.dct [kk]) [o]) (p :: (f2 ++ [])) := Rep.node upd_same ⟨rfl, rfl⟩ (.cons r2 .nil)
        rw [List.append_nil] at rn
        refine q (.ref p) G2 (upd H2 p (.dK [(kk, vv)])) (p :: f2) ⟨⟨gg.ex, fun a u e t k => gg.old a u (by rw [upd_ne (hne a u e)]; exact e) t k⟩, fun a u e => keep a (hne a u e) u (eh2 a u e), fun a u e => keep a (fun k => by rw [k, gp2] at e; cases e) u (g2.x a u e), rn, List.nodup_cons.mpr ⟨pf, g2.nd⟩, fun b hb => ?_⟩
        rcases List.mem_cons.mp hb with rfl | hb
        · exact ⟨gp2, hn⟩
        · exact ⟨(g2.fr b hb).1, L2.Same.free ((Ex.new hn).trans g1.eh) (g2.fr b hb).2⟩
end
def putKid {κ : Type} [DecidableEq κ] (ks : List κ) (k : κ) (l : List O) (o : O) : List κ × List O := match ks.findIdx? fun z => decide (z = k) with
  | some j => (ks, l.set j o)
  | none => (ks ++ [k], l ++ [o])
def muSet2 : Mu := fun t l args => match t, args with
  | .dct ks, [.dat y, o] => if l.length < sizeLine ∧ ks.length = l.length ∧ ks.Nodup then (keyD y).map fun k => (.dct (putKid ks k l o).1, (putKid ks k l o).2, .dat .non) else none
  | .dcT ks, [.dat (.tup y), o] => if l.length < sizeLine ∧ ks.length = l.length ∧ ks.Nodup then (keysD y).map fun k => (.dcT (putKid ks k l o).1, (putKid ks k l o).2, .dat .non) else none
  | t, args => muSet t l args
section
variable {K : PySem.W.Frag}
theorem putK_zip {κ : Type} [DecidableEq κ] {ks : List κ} {xs : List V} {k : κ} {v : V} (h : ks.length = xs.length) (nd : ks.Nodup) : putK (ks.zip xs) k v = match ks.findIdx? fun z => decide (z = k) with
    | some j => ks.zip (xs.set j v)
    | none => (ks ++ [k]).zip (xs ++ [v]) := by
  unfold putK
  rw [valV_any, zip_isSome h]
  cases e : ks.findIdx? fun z => decide (z = k) with
  | none =>
    simp only [Option.isSome_none, Bool.false_eq_true, if_false]
    rw [List.zip_append h]
    rfl
  | some j =>
    simp only [Option.isSome_some, if_true]
    induction ks generalizing xs j with
    | nil => cases e
    | cons z ks ih =>
      cases xs with
      | nil => simp at h
      | cons x xs =>
        rw [List.findIdx?_cons] at e
        rw [List.nodup_cons] at nd
        by_cases q : z = k
        · rw [if_pos (decide_eq_true q)] at e
          cases e
          subst q
          rw [List.zip_cons_cons, List.map_cons, List.set_cons_zero, List.zip_cons_cons, if_pos rfl]
          congr 1
          have : ∀ p ∈ ks.zip xs, (if p.1 = z then (p.1, v) else p) = p := fun p hp => by
            have hm := (List.of_mem_zip (show (p.1, p.2) ∈ ks.zip xs from hp)).1
            by_cases ez : p.1 = z
            · rw [ez] at hm
              exact absurd hm nd.1
            · rw [if_neg ez]
          exact (List.map_congr_left this).trans (List.map_id'' (fun _ => rfl) _)
        · rw [if_neg (by simpa using q)] at e
          cases e2 : ks.findIdx? fun z => decide (z = k) with
          | none => rw [e2] at e; cases e
          | some i =>
            rw [e2] at e
            simp only [Option.map_some, Option.some.injEq] at e
            subst e
            rw [List.zip_cons_cons, List.map_cons, List.set_cons_succ, List.zip_cons_cons, if_neg q, ih (by simpa using h) nd.2 i e2]
theorem putKid_ok {κ : Type} [DecidableEq κ] {G H : Hp} {ks : List κ} {xs : List V} {l : List O} {fl g : List Addr} {k : κ} {v : V} {o : O} (h : ks.length = xs.length) (nd : ks.Nodup) (rl : Reps K G H xs l fl) (r : Rep K G H v o g) :
    ∃ ks' xs' f', putKid ks k l o = (ks', (putKid ks k l o).2) ∧ ks'.length = xs'.length ∧ putK (ks.zip xs) k v = ks'.zip xs' ∧ Reps K G H xs' (putKid ks k l o).2 f' ∧ (∀ x ∈ f', x ∈ fl ∨ x ∈ g) ∧ ((fl ++ g).Nodup → f'.Nodup) := by
  have hl := rl.length
  rw [putK_zip h nd]
  unfold putKid
  cases e : ks.findIdx? fun z => decide (z = k) with
  | none =>
    refine ⟨ks ++ [k], xs ++ [v], fl ++ g, rfl, by simp [h], rfl, ?_, fun x hx => List.mem_append.mp hx, id⟩
    have q := rl.app (.cons r .nil)
    simpa using q
  | some j =>
    obtain ⟨hlt, _⟩ := List.findIdx?_eq_some_iff_findIdx_eq.mp e
    obtain ⟨pre, fo, post, e1, q⟩ := rl.putAt (k := j) (by omega) r
    refine ⟨ks, xs.set j v, pre ++ g ++ post, rfl, by simp [h], rfl, q, fun x hx => ?_, fun nd2 => ?_⟩
    · rw [e1]
      simp only [List.mem_append] at hx ⊢
      grind
    · rw [e1] at nd2
      simp only [List.nodup_append, List.mem_append] at nd2 ⊢
      grind
def rSetA : TSet := fun o i v H Q => rSetL o i v H Q ∨ rSetD o i v H Q
theorem set_all {X : Cx} (hu : X.A.units + 1 < cLine) : PSet X rSetA := by
  intro pins s σ H o i v ov iv u Q I ro ri rv q
  rcases q with q | q
  · exact set_list pins s σ H o i v ov iv u Q I ro ri rv q
  · exact set_dict hu pins s σ H o i v ov iv u Q I ro ri rv q
theorem set_M2 : MutOk K (rOfSet rSetA) muSet2 := fun {G H a ho t t' xs vs l l' args res fl f2 Q} ex ha hd rl ra nd e k => by
  unfold muSet2 at e
  split at e
  · next ks y o =>
    split at e
    · next hc =>
      obtain ⟨c1, c2, c3⟩ := hc
      cases z : keyD y with
      | none => rw [z] at e; cases e
      | some kk =>
        rw [z] at e
        simp only [Option.map_some, Option.some.injEq, Prod.mk.injEq] at e
        obtain ⟨rfl, rfl, rfl⟩ := e
        obtain ⟨hl, rfl⟩ := hd
        obtain ⟨v, w, g1, g2, rfl, rfl, r1, r2⟩ := ra.two
        cases r1 with
        | dat d1 =>
          obtain ⟨ks', xs', f', p1, p2, p3, p4, p5, p6⟩ := putKid_ok (k := kk) hl c3 rl r2
          have e1 : (putKid ks kk l o).1 = ks' := congrArg Prod.fst p1
          have hlen := rl.length
          refine ⟨v, w, rfl, .inr ⟨a, _, rfl, .inl ⟨_, kk, ha, keyD_v (.dat d1 : RdV K G H v y) z, by rw [List.length_zip]; omega, rfl⟩, ?_⟩⟩
          rw [p3]
          refine k .non (.dK (ks'.zip xs')) xs' f' [] ⟨by rw [e1]; exact p2, by rw [e1]⟩ p4 (.dat .non) (fun x hx => ?_) ?_
          · simpa using p5 x (by simpa using hx)
          · rw [List.nil_append]
            exact p6 (by simpa using nd)
    · cases e
  · next ks y o =>
    split at e
    · next hc =>
      obtain ⟨c1, c2, c3⟩ := hc
      cases z : keysD y with
      | none => rw [z] at e; cases e
      | some kk =>
        rw [z] at e
        simp only [Option.map_some, Option.some.injEq, Prod.mk.injEq] at e
        obtain ⟨rfl, rfl, rfl⟩ := e
        obtain ⟨hl, rfl⟩ := hd
        obtain ⟨v, w, g1, g2, rfl, rfl, r1, r2⟩ := ra.two
        cases r1 with
        | dat d1 =>
          cases d1 with
          | tup h1 h2 =>
            rename_i b ys
            rw [keysD_v h2 z] at h1
            obtain ⟨ks', xs', f', p1, p2, p3, p4, p5, p6⟩ := putKid_ok (k := kk) hl c3 rl r2
            have e1 : (putKid ks kk l o).1 = ks' := congrArg Prod.fst p1
            have hlen := rl.length
            refine ⟨_, w, rfl, .inr ⟨a, _, rfl, .inr ⟨_, kk, b, ha, rfl, ex _ _ h1, by rw [List.length_zip]; omega, rfl⟩, ?_⟩⟩
            rw [p3]
            refine k .non (.dT (ks'.zip xs')) xs' f' [] ⟨by rw [e1]; exact p2, by rw [e1]⟩ p4 (.dat .non) (fun x hx => ?_) ?_
            · simpa using p5 x (by simpa using hx)
            · rw [List.nil_append]
              exact p6 (by simpa using nd)
    · cases e
  · obtain ⟨i, v, h1, h2⟩ := set_M ex ha hd rl ra nd e k
    exact ⟨i, v, h1, .inl h2⟩
end
def toDats (ρ : Env) : List Opd → Option (List D × Env)
  | [] => some ([], ρ)
  | o :: os => match toDat ρ o with
    | some (d, ρ1) => (match toDats ρ1 os with
      | some (ds, ρ2) => some (d :: ds, ρ2)
      | none => none)
    | none => none
def xTup (fa : FOs) : FX := fun ρ => match fa ρ with
  | .ok os => (match toDats ρ os with
    | some (ds, ρ') => if ds.length ≤ sizeLine then .ok (.tmp (.dat (.tup ds))) ρ' else .bad
    | none => .bad)
  | .exc c fs => .exc c fs ρ
  | .bad => .bad
section
variable {K : PySem.W.Frag} {mg : Str → Option Value} {W : WX} {H : Hp} {σ : L2.St}
theorem ro_up {G G' : Hp} {v : V} {o : Opd} {f : List Addr} (eg : Ex G G') (r : RO K G H σ v o f) : RO K G' H σ v o f := by
  cases o with
  | tmp o => exact Rep.mono eg r fun a _ u h => h
  | plc i p => exact r
theorem ros_up {G G' : Hp} {vs : List V} {os : List Opd} {f : List Addr} (eg : Ex G G') (r : ROs K G H σ vs os f) : ROs K G' H σ vs os f := by
  induction r with
  | nil => exact .nil
  | cons h t ih => exact .cons (ro_up eg h) ih
theorem toDats_ok : ∀ {os : List Opd} {vs : List V} {f : List Addr} {G : Hp} {ρ ρ' : Env} {fp : List Addr} {ds : List D}, ROs K G H σ vs os f → Conf K G H σ ρ fp → (f ++ fp).Nodup → (∀ a ∈ f, G a = none) → toDats ρ os = some (ds, ρ') →
    ∃ G2 fp2, Stp G H (f ++ fp) G2 H fp2 ∧ Conf K G2 H σ ρ' fp2 ∧ IsDs K G2 vs ds
  | [], _, _, G, ρ, ρ', fp, ds, .nil, c, nd, gn, e => by
    unfold toDats at e
    cases e
    exact ⟨G, fp, Stp.refl.sup fun a h => List.mem_append_right _ h, c, .nil⟩
  | o :: os, _, _, G, ρ, ρ', fp, ds, .cons (v := v) (f := f1) (vs := vs) (fs := f2) h t, c, nd, gn, e => by
    unfold toDats at e
    cases z1 : toDat ρ o with
    | none => rw [z1] at e; cases e
    | some q1 =>
      obtain ⟨d, ρ1⟩ := q1
      cases z2 : toDats ρ1 os with
      | none => simp only [z1, z2] at e; cases e
      | some q2 =>
        obtain ⟨ds', ρ2⟩ := q2
        simp only [z1, z2, Option.some.injEq, Prod.mk.injEq] at e
        obtain ⟨rfl, rfl⟩ := e
        have nd' := nd
        simp only [List.nodup_append, List.mem_append] at nd'
        have nd1 : (f1 ++ fp).Nodup := by
          simp only [List.nodup_append, List.mem_append]
          grind
        obtain ⟨G1, fp1, s1, c1, d1⟩ := GotX.dat (G := G) (H := H) (fp := f1 ++ fp) (o := o) (v := v) (f := f1) (ρ' := ρ) (fp' := fp) ⟨Stp.refl, c, h, nd1, fun a ha => gn a (List.mem_append_left _ ha)⟩ z1
        have lv := ROs.live t
        have n2 : ∀ a ∈ f2, a ∉ f1 ++ fp := fun a ha z => by
          simp only [List.mem_append] at z
          grind
        have gn1 : ∀ a ∈ f2, G1 a = none := fun a ha => by
          obtain ⟨u, h1, h2⟩ := lv a ha
          exact s1.og a u h1 (n2 a ha) h2 (gn a (List.mem_append_right _ ha))
        have nd2 : (f2 ++ fp1).Nodup := by
          have n3 : ∀ a ∈ f2, a ∉ fp1 := fun a ha z => by
            obtain ⟨u, h1, h2⟩ := lv a ha
            rcases s1.sb a z with k | k
            · exact n2 a ha k
            · rw [h1] at k; cases k
          have := c1.nd
          simp only [List.nodup_append]
          grind
        obtain ⟨G2, fp2, s2, c2, d2⟩ := toDats_ok (ros_up s1.eg t) c1 nd2 gn1 z2
        have s3 : Stp G H (f2 ++ (f1 ++ fp)) G1 H (f2 ++ fp1) := s1.left f2
        refine ⟨G2, fp2, (s3.trans s2).sup fun a ha => ?_, c2, .cons (d1.mono s2.eg) d2⟩
        simp only [List.mem_append] at ha ⊢
        grind
theorem xtup_read {fa : FOs} {Q : V → Hp → Prop} {H : Hp} (h : tX K mg W (xTup fa) σ H Q) : tTup (tG K mg W (ROs K) fa) σ H Q := by
  obtain ⟨ρ, G, fp, c, q⟩ := h
  refine ⟨ρ, G, fp, c, ?_⟩
  unfold xTup at q
  cases z : fa ρ with
  | exc cc fs =>
    rw [z] at q
    exact fun cls d G' H' m gr eh x ef => q cls d G' H' fp m (Stp.of gr eh) (c.grow gr eh x) ef
  | bad => rw [z] at q; exact q
  | ok os =>
    rw [z] at q
    simp only at q
    intro vs G1 H1 f1 g1
    have c1 := g1.conf c
    have rr : ROs K G1 H1 σ vs os f1 := g1.rep
    cases z2 : toDats ρ os with
    | none => rw [z2] at q; exact q.elim
    | some r =>
      obtain ⟨ds, ρ'⟩ := r
      rw [z2] at q
      simp only at q
      have nd : (f1 ++ fp).Nodup := nd_join g1.nd c.nd fun x hx hy => by
        obtain ⟨u, h, _⟩ := c.rep.live x hy
        have := (g1.fr x hx).2
        rw [h] at this; cases this
      obtain ⟨G2, fp2, s2, c2, d2⟩ := toDats_ok rr c1 nd (fun a ha => (g1.fr a ha).1) z2
      have hlen := d2.length
      split at q
      · next hz =>
        refine ⟨by omega, fun p n => ?_⟩
        have gp : G2 p = none := L2.Same.free c2.ex n
        have c3 : Conf K (upd G2 p (.tup vs)) (upd H1 p (.tup vs)) σ ρ' fp2 := c2.grow (Gr.new n c2.ex) (Ex.new n) (c2.ex.upd2 n)
        have st : Stp G H fp G2 H1 fp2 := (g1.stp (fp := fp)).trans s2
        refine q (.ref p) (upd G2 p (.tup vs)) (upd H1 p (.tup vs)) [] fp2 ⟨?_, c3, .dat (.tup upd_same (d2.mono (Ex.new gp))), by rw [List.nil_append]; exact c2.nd, fun b hb => by cases hb⟩
        rw [List.nil_append]
        exact st.trans (Stp.of (Gr.new n c2.ex) (Ex.new n))
      · exact q.elim
end
section
variable {X : Cx} {W : WX} {es : List Expr} {pos : Pos}
theorem xx_tup {x1 : Nat} {fa : FOs} (h : EOs X W es fa) : XX X W (.Tuple es x1 pos) (xTup fa) := PEimp (pe_tup h) fun σ H Q q => xtup_read q
end
end FL
namespace FL
open PySem L2 PyProof.Rows
open PySem.W (AllAlike Sortable dataLe dataLt alike EachIs AlikeAll minD maxD readsAll_at min_list_data min_tuple_data max_list_data max_tuple_data)
theorem pyDs_map : ∀ l : List D, pyDs l = l.map pyD
  | [] => rfl
  | d :: l => by
    show pyD d :: pyDs l = _
    rw [pyDs_map l]
    rfl
mutual
def plainD : D → Bool
  | .non => true
  | .bl _ => true
  | .int _ => true
  | .str _ => true
  | .tup l => plainDs l
  | _ => false
def plainDs : List D → Bool
  | [] => true
  | d :: l => plainD d && plainDs l
end
mutual
theorem pyD_inj : ∀ {a b : D}, plainD a = true → plainD b = true → pyD a = pyD b → a = b
  | .non, b, _, hb, e => by cases b <;> first | rfl | (cases hb; done) | (simp [pyD] at e)
  | .bl x, b, _, hb, e => by cases b <;> first | (cases hb; done) | (simp [pyD] at e; try rw [e])
  | .int x, b, _, hb, e => by cases b <;> first | (cases hb; done) | (simp [pyD] at e; try rw [e])
  | .str x, b, _, hb, e => by cases b <;> first | (cases hb; done) | (simp [pyD] at e; try rw [e])
  | .tup l, b, ha, hb, e => by
    cases b with
    | tup l2 =>
      simp only [pyD, PyData.tuple.injEq] at e
      rw [pyDs_inj ha hb e]
    | _ => first | (cases hb; done) | (simp [pyD] at e)
theorem pyDs_inj : ∀ {a b : List D}, plainDs a = true → plainDs b = true → pyDs a = pyDs b → a = b
  | [], [], _, _, _ => rfl
  | [], _ :: _, _, _, e => by simp [pyDs] at e
  | _ :: _, [], _, _, e => by simp [pyDs] at e
  | x :: a, y :: b, ha, hb, e => by
    simp only [pyDs, List.cons.injEq] at e
    simp only [plainDs, Bool.and_eq_true] at ha hb
    rw [pyD_inj ha.1 hb.1 e.1, pyDs_inj ha.2 hb.2 e.2]
end
theorem plainDs_mem : ∀ {l : List D} {d : D}, plainDs l = true → d ∈ l → plainD d = true
  | x :: l, d, h, m => by
    simp only [plainDs, Bool.and_eq_true] at h
    rcases List.mem_cons.mp m with rfl | m
    · exact h.1
    · exact plainDs_mem h.2 m
def rBestG (K : PySem.W.Frag) (mn : Bool) : List V → Hp → VK → Prop := fun vs H Q => ∃ (a : Addr) (xs : List V) (d0 : PyData) (ds : List PyData), vs = [.ref a] ∧ (SqL K H a xs ∨ SqT K H a xs) ∧ DpAll K H xs (d0 :: ds) ∧ AlikeAll (d0 :: ds) ∧ PyData.depthAll (d0 :: ds) ≤ 9 ∧
  ∀ (i : Nat) (v : V), xs[i]? = some v → (d0 :: ds)[i]? = some (if mn = true then minD d0 ds else maxD d0 ds) → Q v H
section
variable {X : Cx}
theorem best_idx {h : Heap} {vs : List Value} {xs : List PyData} {as bs : List Addr} {i : Nat} {v : Value} {d : PyData} (hr : ReadsAll h vs xs as) (ha : AlikeAll xs) (hd : d ∈ xs) (hv : vs[i]? = some v) (r : Reads h v d bs) : xs[i]? = some d := by
  obtain ⟨cs, r2, hlt, hm, _⟩ := readsAll_at hr i v hv
  have e : xs.getD i .none = d := PySem.W.alike_unique _ _ _ _ _ (ha.1 _ hm _ hd) r2 r
  rw [← e]
  simp [List.getD, hlt]
theorem minD_mem (x : PyData) : ∀ xs : List PyData, minD x xs ∈ x :: xs := by
  intro xs
  unfold minD
  induction xs generalizing x with
  | nil => simp
  | cons y ys ih =>
    rw [List.foldl_cons]
    have := ih (if dataLt y x then y else x)
    rcases List.mem_cons.mp this with e | m
    · rw [e]
      by_cases h : dataLt y x = true
      · rw [if_pos h]; simp
      · rw [if_neg h]; simp
    · simp [m]
theorem maxD_mem (x : PyData) : ∀ xs : List PyData, maxD x xs ∈ x :: xs := by
  intro xs
  unfold maxD
  induction xs generalizing x with
  | nil => simp
  | cons y ys ih =>
    rw [List.foldl_cons]
    have := ih (if dataLt x y then y else x)
    rcases List.mem_cons.mp this with e | m
    · rw [e]
      by_cases h : dataLt x y = true
      · rw [if_pos h]; simp
      · rw [if_neg h]; simp
    · simp [m]
theorem valsU : ∀ {xs : List V} {us : List Value} {i : Nat} {u : Value}, Vals xs us → us[i]? = some u → ∃ x, xs[i]? = some x ∧ RelV x u
  | _, _, _, _, .nil, e => by simp at e
  | _, _, 0, _, .cons r _, e => by simp at e; subst e; exact ⟨_, rfl, r⟩
  | _, _, i + 1, u, .cons _ t, e => by
    obtain ⟨x, h1, h2⟩ := valsU (i := i) (u := u) t (by simpa using e)
    exact ⟨x, by simpa using h1, h2⟩
theorem cr_minG (hc : X.calm = true) (hu : X.A.units + 66 < cLine) : CallR X (.builtin "min") (rBestG X.K true) := by
  intro pins s σ H vs us Q I r h
  obtain ⟨a, xs, d0, ds, rfl, hs, hd, hal, hdp, q⟩ := h
  rw [Vals.ref1 r]
  have fin : ∀ {its : List Value}, Vals xs its → ∀ (i : Nat) v h' tk bs, its.toArray[i]? = some v → Reads h' v (minD d0 ds) bs → (∀ b o, s.heap.get? b = some o → h'.get? b = some o) → EP X pins σ Q v { s with heap := h', toks := tk } := fun {its} rv i v h' tk bs hv hr hk => by
    have hv : its[i]? = some v := by simpa using hv
    obtain ⟨as, ra⟩ := Dp.readsAll I _ _ _ hd rv
    have ra2 := PyProof.Rows.ReadsAll.keeps hk ra
    obtain ⟨w, hw, rw'⟩ := valsU rv hv
    exact ⟨w, H, I.kept hk, rw', q i w hw (best_idx ra2 hal (minD_mem d0 ds) hv hr)⟩
  rcases hs with hs | hs
  · obtain ⟨its, rv, hl, _⟩ := I.list hs
    obtain ⟨as, ra⟩ := Dp.readsAll I _ _ _ hd rv
    exact min_list_data (I.ok.hd hc) hl.isList (by simpa using ra) hal (by omega) fun i v h' tk bs hv hr hk => fin rv i v h' tk bs hv hr hk
  · obtain ⟨its, rv, hl, _⟩ := I.tuple hs
    obtain ⟨as, ra⟩ := Dp.readsAll I _ _ _ hd rv
    exact min_tuple_data (I.ok.hd hc) (show s.heap.IsTuple a its.toArray from hl) (by simpa using ra) hal (by omega) fun i v h' tk bs hv hr hk => fin rv i v h' tk bs hv hr hk
theorem cr_maxG (hc : X.calm = true) (hu : X.A.units + 66 < cLine) : CallR X (.builtin "max") (rBestG X.K false) := by
  intro pins s σ H vs us Q I r h
  obtain ⟨a, xs, d0, ds, rfl, hs, hd, hal, hdp, q⟩ := h
  rw [Vals.ref1 r]
  have fin : ∀ {its : List Value}, Vals xs its → ∀ (i : Nat) v h' tk bs, its.toArray[i]? = some v → Reads h' v (maxD d0 ds) bs → (∀ b o, s.heap.get? b = some o → h'.get? b = some o) → EP X pins σ Q v { s with heap := h', toks := tk } := fun {its} rv i v h' tk bs hv hr hk => by
    have hv : its[i]? = some v := by simpa using hv
    obtain ⟨as, ra⟩ := Dp.readsAll I _ _ _ hd rv
    have ra2 := PyProof.Rows.ReadsAll.keeps hk ra
    obtain ⟨w, hw, rw'⟩ := valsU rv hv
    exact ⟨w, H, I.kept hk, rw', q i w hw (by simpa using best_idx ra2 hal (maxD_mem d0 ds) hv hr)⟩
  rcases hs with hs | hs
  · obtain ⟨its, rv, hl, _⟩ := I.list hs
    obtain ⟨as, ra⟩ := Dp.readsAll I _ _ _ hd rv
    exact max_list_data (I.ok.hd hc) hl.isList (by simpa using ra) hal (by omega) fun i v h' tk bs hv hr hk => fin rv i v h' tk bs hv hr hk
  · obtain ⟨its, rv, hl, _⟩ := I.tuple hs
    obtain ⟨as, ra⟩ := Dp.readsAll I _ _ _ hd rv
    exact max_tuple_data (I.ok.hd hc) (show s.heap.IsTuple a its.toArray from hl) (by simpa using ra) hal (by omega) fun i v h' tk bs hv hr hk => fin rv i v h' tk bs hv hr hk
end
end FL
namespace FL
open PySem L2 PyProof.Rows
open PySem.W (AllAlike Sortable dataLe dataLt alike EachIs AlikeAll minD maxD sorted_data)
def Sortable1 (ds : List PyData) : Prop := Sortable ds ∨ (ds.length ≤ 1 ∧ ∀ d ∈ ds, d ≠ .none)
section
open PySem.W PySem.Calls
variable {prog : Program} {w : World} {A : Around} {E : Value → Shared → Prop} {s : Shared} {β : Type} {R : Value → β → Prop} {vs : List Value} {bs : List β} {enc : β → PyData}
theorem sorts_one {vs : List Value} {ds : List PyData} (e : EachIs (fun v d => ∃ as, Reads s.heap v d as) vs ds) (hal : AllAlike ds) (hn : ∀ d ∈ ds, d ≠ .none) (hl : vs.length ≤ 1) (hu : ∀ d, d ∈ ds → A.units + d.depth < cLine) : SortsAt prog w A s (dataKind s.heap ds) vs := by
  refine ⟨fun v hv => ?_, general', ?_, fun h2 => by omega⟩
  · obtain ⟨d, hd, as, r⟩ := e.left v hv
    exact ⟨_, dataKind_some hal hd r⟩
  · intro E x y a b Q ha hb hq
    obtain ⟨d, as, hd, ra, rfl⟩ := dataKind_inv ha
    obtain ⟨d', as', hd', rb, rfl⟩ := dataKind_inv hb
    exact oneLt_alike (f := false) (fun h => by cases h) ra rb (hal d hd d' hd') (hn d hd) (Nat.lt_of_le_of_lt (Nat.add_le_add_left (Nat.min_le_left _ _) _) (hu d hd)) hq
theorem sorted_data1 {l : Addr} {Q : Value → Shared → Prop} (hl : s.heap.IsList l vs.toArray) (e : EachIs R vs bs) (er : EachIs (fun v b => ∃ as, Reads s.heap v (enc b) as) vs bs) (hal : AllAlike (bs.map enc)) (hk : Sortable1 (bs.map enc)) (hL : bs.length ≤ sizeLine)
    (hu : ∀ b, b ∈ bs → A.units + 2 + (enc b).depth < cLine) (h : ∀ out, out.length = bs.length → EachIs R out (bs.mergeSort (dataLe false enc)) → Q (.ref (s.heap.objs.size + 1)) { s with heap := sortedAll s.heap vs (List.toArray out) }) :
    wpAny (model prog w) A (call (.builtin "sorted") [.ref l]) Q E s := by
  rcases hk with hk | ⟨hk, hn⟩
  · exact sorted_data hl e er hal hk hL hu h
  · have er' : EachIs (fun v b => ∃ as, Reads (sortingHeap (copyHeap s.heap vs) (s.heap.objs.size + 1) vs) v (enc b) as) vs bs := er.mono fun _ _ ⟨as, r⟩ => ⟨as, PyProof.Rows.Reads.keeps (fun _ _ => sorting_copy_old) r⟩
    exact sorted_vals hl (sorts_one (s := { s with heap := sortingHeap (copyHeap s.heap vs) (s.heap.objs.size + 1) vs }) (each_map (R := fun v d => ∃ as, Reads (sortingHeap (copyHeap s.heap vs) (s.heap.objs.size + 1) vs) v d as) enc er') hal hn (by rw [e.length]; simpa using hk) (bound_map hu)) (by rw [e.length]; exact hL)
      (h _ (by rw [sortVals_length false rfl]; exact e.length) (sortVals_data false e er' hal))
end
def rSortG (K : PySem.W.Frag) : List V → Hp → VK → Prop := fun vs H Q => ∃ (a : Addr) (xs : List V) (l : List D), vs = [.ref a] ∧ SqL K H a xs ∧ xs.length = l.length ∧ DpAll K H xs (l.map pyD) ∧ AllAlike (l.map pyD) ∧ Sortable1 (l.map pyD) ∧ (∀ d ∈ l, (pyD d).depth ≤ 9) ∧
  ∀ p, H p = none → Q (.ref p) (upd H p (.lst (((xs.zip l).mergeSort (dataLe false fun b => pyD b.2)).map (·.1))))
section
variable {X : Cx} {H : Hp} {s : Shared}
theorem each_zip {K : PySem.W.Frag} {h : Heap} : ∀ {xs : List V} {us : List Value} {l : List D} {as : List Addr}, Vals xs us → xs.length = l.length → ReadsAll h us (l.map pyD) as →
    EachIs (fun u (b : V × D) => RelV b.1 u) us (xs.zip l) ∧ EachIs (fun u (b : V × D) => ∃ as, Reads h u (pyD b.2) as) us (xs.zip l)
  | _, _, [], _, .nil, _, _ => ⟨.nil, .nil⟩
  | _, _, _ :: _, _, .nil, h, _ => by simp at h
  | _, _, [], _, .cons _ _, h, _ => by simp at h
  | _, _, d :: l, _, .cons r t, h, ra => by
    cases ra with
    | cons r1 r2 =>
      obtain ⟨a, b⟩ := each_zip (K := K) (h := _) t (by simpa using h) r2
      exact ⟨.cons r a, .cons ⟨_, r1⟩ b⟩
theorem vals_each : ∀ {us : List Value} {bs : List (V × D)}, EachIs (fun u (b : V × D) => RelV b.1 u) us bs → Vals (bs.map (·.1)) us
  | _, _, .nil => .nil
  | _, _, .cons r t => .cons r (vals_each t)
theorem cr_sortG (hu : X.A.units + 66 < cLine) : CallR X (.builtin "sorted") (rSortG X.K) := by
  intro pins s σ H vs us Q I r h
  obtain ⟨a, xs, l, rfl, hs, hlen, hd, hal, hso, hdp, q⟩ := h
  rw [Vals.ref1 r]
  obtain ⟨its, rv, hl, hz⟩ := I.list hs
  obtain ⟨as, ra⟩ := Dp.readsAll I _ _ _ hd rv
  obtain ⟨e1, e2⟩ := each_zip (K := X.K) rv hlen ra
  have em : (xs.zip l).map (fun b => pyD b.2) = l.map pyD := by
    have : (xs.zip l).map (fun b => pyD b.2) = ((xs.zip l).map (·.2)).map pyD := by rw [List.map_map]; rfl
    rw [this, List.map_snd_zip (by omega)]
  have hlz : (xs.zip l).length = xs.length := by rw [List.length_zip]; omega
  refine sorted_data1 (bs := xs.zip l) (enc := fun b => pyD b.2) hl.isList e1 e2 (by rw [em]; exact hal) (by rw [em]; exact hso) (by rw [hlz]; exact hz) (fun b hb => ?_) fun out ho hr => ?_
  · have := hdp b.2 (List.of_mem_zip (show (b.1, b.2) ∈ xs.zip l from hb)).2
    omega
  · obtain ⟨ep, he'⟩ := PyProof.Rows.sortedAll_at s.heap its out.toArray
    have hlen2 : (((xs.zip l).mergeSort (dataLe false fun b => pyD b.2)).map (·.1)).length ≤ sizeLine := by
      rw [List.length_map, List.length_mergeSort, hlz]; exact hz
    exact ⟨.ref _, upd H (s.heap.objs.size + 1) (.lst (((xs.zip l).mergeSort (dataLe false fun b => pyD b.2)).map (·.1))), I.laid (t' := s.toks) (fun _ _ => PyProof.Rows.sortedAll_old) (Nat.le_succ _) ⟨hlen2, out, ep, vals_each hr, he'⟩, rfl, q _ (I.hok.fresh (Nat.le_succ _))⟩
end
def seqI : D → Option (List D)
  | .lst l => some l
  | .scr l => some l
  | .tup l => some l
  | _ => none
def okMin (l : List D) : Prop := okE 9 (.lst l) = true ∧ plainDs l = true ∧ AlikeAll (l.map pyD)
def okSort (l : List D) : Prop := okE 9 (.lst l) = true ∧ AllAlike (l.map pyD) ∧ Sortable1 (l.map pyD)
def minDD (x : D) (l : List D) : D := l.foldl (fun a y => if dataLt (pyD y) (pyD a) = true then y else a) x
def maxDD (x : D) (l : List D) : D := l.foldl (fun a y => if dataLt (pyD a) (pyD y) = true then y else a) x
theorem minDD_py (x : D) (l : List D) : pyD (minDD x l) = minD (pyD x) (l.map pyD) := by
  unfold minDD minD
  induction l generalizing x with
  | nil => rfl
  | cons y l ih =>
    rw [List.map_cons, List.foldl_cons, List.foldl_cons, ih]
    by_cases h : dataLt (pyD y) (pyD x) = true
    · rw [if_pos h, if_pos h]
    · rw [if_neg h, if_neg h]
theorem maxDD_py (x : D) (l : List D) : pyD (maxDD x l) = maxD (pyD x) (l.map pyD) := by
  unfold maxDD maxD
  induction l generalizing x with
  | nil => rfl
  | cons y l ih =>
    rw [List.map_cons, List.foldl_cons, List.foldl_cons, ih]
    by_cases h : dataLt (pyD x) (pyD y) = true
    · rw [if_pos h, if_pos h]
    · rw [if_neg h, if_neg h]
theorem minDD_mem (x : D) (l : List D) : minDD x l ∈ x :: l := by
  unfold minDD
  induction l generalizing x with
  | nil => simp
  | cons y l ih =>
    rw [List.foldl_cons]
    have := ih (if dataLt (pyD y) (pyD x) = true then y else x)
    rcases List.mem_cons.mp this with e | m
    · rw [e]
      by_cases h : dataLt (pyD y) (pyD x) = true
      · rw [if_pos h]; simp
      · rw [if_neg h]; simp
    · simp [m]
theorem maxDD_mem (x : D) (l : List D) : maxDD x l ∈ x :: l := by
  unfold maxDD
  induction l generalizing x with
  | nil => simp
  | cons y l ih =>
    rw [List.foldl_cons]
    have := ih (if dataLt (pyD x) (pyD y) = true then y else x)
    rcases List.mem_cons.mp this with e | m
    · rw [e]
      by_cases h : dataLt (pyD x) (pyD y) = true
      · rw [if_pos h]; simp
      · rw [if_neg h]; simp
    · simp [m]
open Classical in
noncomputable def dMin2 : List D → Rs O
  | [a, b] => dMin [a, b]
  | [d] => match (lOf d).bind intsOf with
    | some (n :: ns) => .ok (.dat (.int (minL (n :: ns))))
    | _ => (match seqI d with
      | some (x :: l) => if okMin (x :: l) then .ok (.dat (minDD x l)) else .bad
      | _ => .bad)
  | _ => .bad
open Classical in
noncomputable def dMax2 : List D → Rs O
  | [a, b] => dMax [a, b]
  | [d] => match (lOf d).bind intsOf with
    | some (n :: ns) => .ok (.dat (.int (maxL (n :: ns))))
    | _ => (match seqI d with
      | some (x :: l) => if okMin (x :: l) then .ok (.dat (maxDD x l)) else .bad
      | _ => .bad)
  | _ => .bad
open Classical in
noncomputable def dSorted2 : List D → Rs O
  | [d] => match iOfs d with
    | some ns => .ok (.node .lst (((sortI ns).map D.int).map .dat))
    | none => (match lOf d with
      | some l => if okSort l then .ok (.node .lst ((l.mergeSort (dataLe false pyD)).map .dat)) else .bad
      | none => .bad)
  | _ => .bad
section
variable {K : PySem.W.Frag} {G H : Hp}
theorem RdV.seqI {v : V} {d : D} {l : List D} (ex : Ex G H) (h : RdV K G H v d) (e : FL.seqI d = some l) : ∃ a xs, v = .ref a ∧ (SqL K H a xs ∨ SqT K H a xs) ∧ IsDs K G xs l := by
  cases d with
  | lst l2 => cases e; obtain ⟨a, xs, rfl, h1, h2⟩ := h.seql ex (.inl rfl); exact ⟨a, xs, rfl, .inl h1, h2⟩
  | scr l2 => cases e; obtain ⟨a, xs, rfl, h1, h2⟩ := h.seql ex (.inr rfl); exact ⟨a, xs, rfl, .inl h1, h2⟩
  | tup l2 => cases e; obtain ⟨a, xs, rfl, h1, _, h2⟩ := h.tup ex; exact ⟨a, xs, rfl, .inr h1, h2⟩
  | _ => cases e
theorem okEs_mem {n : Nat} : ∀ {l : List D} {d : D}, okEs n l = true → d ∈ l → okE n d = true
  | x :: l, d, h, m => by
    have o3 : (okE n x && okEs n l) = true := by cases n <;> exact h
    rw [Bool.and_eq_true] at o3
    rcases List.mem_cons.mp m with rfl | m
    · exact o3.1
    · exact okEs_mem o3.2 m
theorem okE_dp {xs : List V} {l : List D} (ex : Ex G H) (h : IsDs K G xs l) (o : okE 9 (.lst l) = true) : DpAll K H xs (l.map pyD) ∧ PyData.depthAll (l.map pyD) ≤ 9 ∧ ∀ d ∈ l, (pyD d).depth ≤ 9 := by
  have o2 : okEs 8 l = true := o
  rw [← pyDs_map]
  obtain ⟨_, hd⟩ := okEs_py 8 l o2
  refine ⟨IsDs.dp ex h (n := 8) o2, by omega, fun d hm => ?_⟩
  have : okE 8 d = true := okEs_mem o2 hm
  have := (okE_py 8 d this).2
  omega
theorem isDs_at {xs : List V} {l : List D} {i : Nat} {v : V} {e : D} (h : IsDs K G xs l) (hp : plainDs l = true) (hm : e ∈ l) (hv : xs[i]? = some v) (hi : (l.map pyD)[i]? = some (pyD e)) : IsD K G v e := by
  obtain ⟨d, h1, h2⟩ := h.getV hv
  rw [List.getElem?_map, h1] at hi
  have e1 : pyD d = pyD e := by simpa using hi
  have := pyD_inj (plainDs_mem hp (List.mem_of_getElem? h1)) (plainDs_mem hp hm) e1
  rw [← this]
  exact h2
theorem best_min {Q : VK} {v : V} {d x : D} {l : List D} {mg : Str → Option Value} {W : WX} {σ : L2.St} (ex : Ex G H) (hx : RdV K G H v d) (e : FL.seqI d = some (x :: l)) (ok : okMin (x :: l)) (q : Post K mg W (RO K) (.ok (.tmp (.dat (minDD x l)))) σ G H Q) : rBestG K true [v] H Q := by
  obtain ⟨a, xs, rfl, h1, h2⟩ := hx.seqI ex e
  obtain ⟨o1, o2, o3⟩ := ok
  obtain ⟨p1, p2, p3⟩ := okE_dp ex h2 o1
  refine ⟨a, xs, pyD x, l.map pyD, rfl, h1, p1, o3, p2, fun i v hv hi => Post.dt q ex (isDs_at h2 o2 (minDD_mem x l) hv ?_)⟩
  rw [minDD_py]
  simpa using hi
theorem best_max {Q : VK} {v : V} {d x : D} {l : List D} {mg : Str → Option Value} {W : WX} {σ : L2.St} (ex : Ex G H) (hx : RdV K G H v d) (e : FL.seqI d = some (x :: l)) (ok : okMin (x :: l)) (q : Post K mg W (RO K) (.ok (.tmp (.dat (maxDD x l)))) σ G H Q) : rBestG K false [v] H Q := by
  obtain ⟨a, xs, rfl, h1, h2⟩ := hx.seqI ex e
  obtain ⟨o1, o2, o3⟩ := ok
  obtain ⟨p1, p2, p3⟩ := okE_dp ex h2 o1
  refine ⟨a, xs, pyD x, l.map pyD, rfl, h1, p1, o3, p2, fun i v hv hi => Post.dt q ex (isDs_at h2 o2 (maxDD_mem x l) hv ?_)⟩
  rw [maxDD_py]
  simpa using hi
def rMin2 (K : PySem.W.Frag) : List V → Hp → VK → Prop := fun xs H Q => rMinAll K xs H Q ∨ rBestG K true xs H Q
def rMax2 (K : PySem.W.Frag) : List V → Hp → VK → Prop := fun xs H Q => rMaxAll K xs H Q ∨ rBestG K false xs H Q
theorem min_F2 : CallF K (rMin2 K) dMin2 := fun {mg W G H σ Q vs ds} ex h q => by
  match ds, h, q with
  | [], h, q => exact q.elim
  | [d], h, q =>
    have e2 : dMin2 [d] = (match (lOf d).bind intsOf with
      | some (n :: ns) => .ok (.dat (.int (minL (n :: ns))))
      | _ => (match seqI d with
        | some (x :: l) => open Classical in if okMin (x :: l) then .ok (.dat (minDD x l)) else .bad
        | _ => .bad)) := rfl
    have e1 : dMin [d] = (match (lOf d).bind intsOf with
      | some (n :: ns) => .ok (.dat (.int (minL (n :: ns))))
      | _ => .bad) := by cases d <;> rfl
    rw [e2] at q
    cases z : (lOf d).bind intsOf with
    | some l =>
      cases l with
      | cons n ns =>
        rw [z] at q
        refine .inl (min_F (mg := mg) (W := W) (σ := σ) ex h ?_)
        rw [e1, z]
        exact q
      | nil =>
        rw [z] at q
        simp only at q
        split at q
        · next x l hs =>
          split at q
          · next ok =>
            obtain ⟨v, rfl, r⟩ := h.one
            exact .inr (best_min ex r hs ok q)
          · exact q.elim
        · exact q.elim
    | none =>
      rw [z] at q
      simp only at q
      split at q
      · next x l hs =>
        split at q
        · next ok =>
          obtain ⟨v, rfl, r⟩ := h.one
          exact .inr (best_min ex r hs ok q)
        · exact q.elim
      · exact q.elim
  | [a, b], h, q =>
    have q : Post K mg W (RO K) ((dMin [a, b]).bnd okT) σ G H Q := q
    exact .inl (min_F (mg := mg) (W := W) (σ := σ) ex h q)
  | _ :: _ :: _ :: _, h, q => exact q.elim
theorem max_F2 : CallF K (rMax2 K) dMax2 := fun {mg W G H σ Q vs ds} ex h q => by
  match ds, h, q with
  | [], h, q => exact q.elim
  | [d], h, q =>
    have e2 : dMax2 [d] = (match (lOf d).bind intsOf with
      | some (n :: ns) => .ok (.dat (.int (maxL (n :: ns))))
      | _ => (match seqI d with
        | some (x :: l) => open Classical in if okMin (x :: l) then .ok (.dat (maxDD x l)) else .bad
        | _ => .bad)) := rfl
    have e1 : dMax [d] = (match (lOf d).bind intsOf with
      | some (n :: ns) => .ok (.dat (.int (maxL (n :: ns))))
      | _ => .bad) := by cases d <;> rfl
    rw [e2] at q
    cases z : (lOf d).bind intsOf with
    | some l =>
      cases l with
      | cons n ns =>
        rw [z] at q
        refine .inl (max_F (mg := mg) (W := W) (σ := σ) ex h ?_)
        rw [e1, z]
        exact q
      | nil =>
        rw [z] at q
        simp only at q
        split at q
        · next x l hs =>
          split at q
          · next ok =>
            obtain ⟨v, rfl, r⟩ := h.one
            exact .inr (best_max ex r hs ok q)
          · exact q.elim
        · exact q.elim
    | none =>
      rw [z] at q
      simp only at q
      split at q
      · next x l hs =>
        split at q
        · next ok =>
          obtain ⟨v, rfl, r⟩ := h.one
          exact .inr (best_max ex r hs ok q)
        · exact q.elim
      · exact q.elim
  | [a, b], h, q =>
    have q : Post K mg W (RO K) ((dMax [a, b]).bnd okT) σ G H Q := q
    exact .inl (max_F (mg := mg) (W := W) (σ := σ) ex h q)
  | _ :: _ :: _ :: _, h, q => exact q.elim
def rSort2 (K : PySem.W.Frag) : List V → Hp → VK → Prop := fun xs H Q => rSortedA K xs H Q ∨ rSortG K xs H Q
theorem zip_isDs {xs : List V} {l : List D} (h : IsDs K G xs l) : ∀ p ∈ xs.zip l, IsD K G p.1 p.2 := by
  intro p hp
  obtain ⟨i, hi⟩ := List.getElem?_of_mem hp
  have := List.getElem?_zip_eq_some.mp hi
  obtain ⟨v, h1, h2⟩ := h.get this.2
  rw [this.1] at h1
  cases h1
  exact h2
theorem isDs_pairs : ∀ {bs : List (V × D)}, (∀ p ∈ bs, IsD K G p.1 p.2) → IsDs K G (bs.map (·.1)) (bs.map (·.2))
  | [], _ => .nil
  | b :: bs, h => .cons (h b List.mem_cons_self) (isDs_pairs fun p hp => h p (List.mem_cons_of_mem _ hp))
theorem sort_F2 : CallF K (rSort2 K) dSorted2 := fun {mg W G H σ Q vs ds} ex h q => by
  unfold dSorted2 at q
  split at q
  · next d =>
    split at q
    · next ns hn =>
      refine .inl (sorted_F (mg := mg) (W := W) (σ := σ) ex h ?_)
      show Post K mg W (RO K) ((match iOfs d with
        | some ns => Rs.ok (O.node .lst (((sortI ns).map D.int).map .dat))
        | none => .bad).bnd okT) σ G H Q
      rw [hn]
      exact q
    · split at q
      · next l hl =>
        split at q
        · next ok =>
          obtain ⟨v, rfl, r⟩ := h.one
          obtain ⟨a, xs, rfl, h1, h2⟩ := r.listOf ex hl
          obtain ⟨o1, o2, o3⟩ := ok
          obtain ⟨p1, p2, p3⟩ := okE_dp ex h2 o1
          refine .inr ⟨a, xs, l, rfl, h1, h2.length, p1, o2, o3, p3, fun p hp => ?_⟩
          have es : ((xs.zip l).mergeSort (dataLe false fun b => pyD b.2)).map (·.2) = l.mergeSort (dataLe false pyD) := by
            have := PySem.W.sort_maps (r := dataLe false fun b : V × D => pyD b.2) (s := dataLe false pyD) (fun b : V × D => b.2) (l := xs.zip l) fun a _ b _ => rfl
            rw [this, List.map_snd_zip (by rw [h2.length]; exact Nat.le_refl _)]
          have hi := isDs_pairs (K := K) (G := G) (bs := (xs.zip l).mergeSort (dataLe false fun b => pyD b.2)) fun p hp => zip_isDs h2 p (List.mem_mergeSort.mp hp)
          rw [es] at hi
          exact Post.nl q ex hi hp
        · exact q.elim
      · exact q.elim
  · exact q.elim
end
section
variable {X : Cx}
theorem cr_min2 (hc : X.calm = true) (hu : X.A.units + 66 < cLine) : CallR X (.builtin "min") (rMin2 X.K) := (call_minAll hc).or (cr_minG hc hu)
theorem cr_max2 (hc : X.calm = true) (hu : X.A.units + 66 < cLine) : CallR X (.builtin "max") (rMax2 X.K) := (call_maxAll hc).or (cr_maxG hc hu)
theorem cr_sort2 (hu : X.A.units + 66 < cLine) : CallR X (.builtin "sorted") (rSort2 X.K) := cr_sortedA.or (cr_sortG hu)
end
end FL
namespace FL
open PySem L2
def frzE (i : Nat) (ρ : Env) : Env := match ρ[i]? with
  | some (some (.node t l)) => (match freeze (.node t l) with
    | some d => putP ρ i [] (.dat d)
    | none => ρ)
  | _ => ρ
def sFrz : List Nat → FS → FS
  | [], f => f
  | i :: is, f => fun ρ => sFrz is f (frzE i ρ)
def sBad : FS := fun _ => .bad
section
variable {X : Cx} {W : WX} {kp : List Nat} {st : Stmt} {f : FS}
theorem ss_frz1 (i : Nat) (h : SS X W kp st f) : SS X W kp st (fun ρ => f (frzE i ρ)) := PSimp h fun D σ H ⟨ρ, G, fp, c, q⟩ => by
  have q : PostS X.K X.mg W kp (f (frzE i ρ)) D σ G H fp := q
  unfold frzE at q
  cases z : ρ[i]? with
  | none => rw [z] at q; exact ⟨ρ, G, fp, c, q⟩
  | some x =>
    cases x with
    | none => rw [z] at q; exact ⟨ρ, G, fp, c, q⟩
    | some o =>
      cases o with
      | dat d => rw [z] at q; exact ⟨ρ, G, fp, c, q⟩
      | pck l => rw [z] at q; exact ⟨ρ, G, fp, c, q⟩
      | node t l =>
        rw [z] at q
        simp only at q
        cases y : freeze (.node t l) with
        | none => rw [y] at q; exact ⟨ρ, G, fp, c, q⟩
        | some d =>
          rw [y] at q
          simp only at q
          obtain ⟨v, f1, pre, post, h1, h2, h3⟩ := c.rep.at z
          have hp : getP ρ i [] = some (.node t l) := by
            unfold getP
            rw [z]
            simp
          obtain ⟨G2, fp2, s, c2, _⟩ := c.frz h1 (show At H v [] v from rfl) hp y
          exact ⟨_, G2, fp2, c2, PostS.step s Keep.refl q⟩
theorem ss_bad : SS X W kp st sBad := PSimp ps_never fun D σ H ⟨ρ, G, fp, c, q⟩ => q.elim
theorem ss_frz (h : SS X W kp st f) : ∀ is : List Nat, SS X W kp st (sFrz is f)
  | [] => h
  | i :: is => ss_frz1 i (ss_frz h is)
end
def dctTag : Tag → Bool
  | .dct _ => true
  | .dcT _ => true
  | _ => false
def keyOk (t : Tag) (n : Nat) (y : D) : Bool := match t, y with
  | .dct ks, y => (keyD y).isSome && decide (ks.length = n)
  | .dcT ks, .tup l => (keysD l).isSome && decide (ks.length = n)
  | _, _ => false
def eGet (fo fk fx : FE) : FE := fun ρ => (fo ρ).bnd fun o => match o with
  | .tmp o => (match freeze o with
    | some (.obj t l) => if dctTag t = true then (rdE fk ρ).bnd fun y => if keyOk t l.length y = true then (match kidIx t l.length y with
      | some j => (fx ρ).bnd fun _ => (match l[j]? with
        | some d => .ok (.tmp (.dat d))
        | none => .bad)
      | none => fx ρ) else .bad else .bad
    | _ => .bad)
  | .plc i p => (match getP ρ i p with
    | some (.node t l) => if dctTag t = true then (rdE fk ρ).bnd fun y => if keyOk t l.length y = true then (match kidIx t l.length y with
      | some j => (fx ρ).bnd fun _ => (match l[j]? with
        | some (.dat d) => .ok (.tmp (.dat d))
        | some (.node _ _) => .ok (.plc i (p ++ [j]))
        | some (.pck _) => .bad
        | none => .bad)
      | none => fx ρ) else .bad else .bad
    | _ => .bad)
section
variable {K : PySem.W.Frag} {G H : Hp}
theorem kid_dget {t : Tag} {xs : List V} {ho : HO} {a : Addr} {y : V} {dy : D} (ex : Ex G H) (ha : H a = some ho) (hd : Holds t xs ho) (hy : RdV K G H y dy) (ok : keyOk t xs.length dy = true) :
    ∃ o, DGet H a y o ∧ (∀ j v, kidIx t xs.length dy = some j → xs[j]? = some v → o = some v) ∧ (kidIx t xs.length dy = none → o = none) := by
  cases t with
  | lst => cases dy <;> cases ok
  | ins C ns => cases dy <;> cases ok
  | dct ks =>
    have ok : ((keyD dy).isSome && decide (ks.length = xs.length)) = true := by cases dy <;> exact ok
    rw [Bool.and_eq_true, decide_eq_true_eq] at ok
    obtain ⟨hl, rfl⟩ := hd
    cases z : keyD dy with
    | none => rw [z] at ok; cases ok.1
    | some k =>
      refine ⟨_, .inl ⟨_, k, .of ha, keyD_v hy z, rfl⟩, fun j v e hv => ?_, fun e => ?_⟩
      · have e : (keyD dy).bind (fun k => ks.findIdx? fun z => decide (z = k)) = some j := e
        rw [z] at e
        exact zip_val hl e hv
      · have e : (keyD dy).bind (fun k => ks.findIdx? fun z => decide (z = k)) = none := e
        rw [z] at e
        exact zip_none hl e
  | dcT ks =>
    cases dy with
    | tup l =>
      have ok : ((keysD l).isSome && decide (ks.length = xs.length)) = true := ok
      rw [Bool.and_eq_true, decide_eq_true_eq] at ok
      obtain ⟨hl, rfl⟩ := hd
      cases z : keysD l with
      | none => rw [z] at ok; cases ok.1
      | some k =>
        obtain ⟨b, zs, rfl, _, h2, h3⟩ := hy.tup ex
        rw [keysD_v h3 z] at h2
        refine ⟨_, .inr ⟨_, k, b, .of ha, rfl, ex _ _ h2, rfl⟩, fun j v e hv => ?_, fun e => ?_⟩
        · have e : (keysD l).bind (fun k => ks.findIdx? fun z => decide (z = k)) = some j := e
          rw [z] at e
          exact zip_val hl e hv
        · have e : (keysD l).bind (fun k => ks.findIdx? fun z => decide (z = k)) = none := e
          rw [z] at e
          exact zip_none hl e
    | _ => cases ok
theorem isD_of {t : Tag} {xs : List V} {ho : HO} {a : Addr} (ha : H a = some ho) (hd : Holds t xs ho) (ok : dctTag t = true) : L2.IsD H a := by
  cases t with
  | lst => cases ok
  | ins C ns => cases ok
  | dct ks => obtain ⟨_, rfl⟩ := hd; exact .inl ⟨_, .of ha⟩
  | dcT ks => obtain ⟨_, rfl⟩ := hd; exact .inr ⟨_, .of ha⟩
end
section
variable {X : Cx} {W : WX} {o e f : Expr} {fo fk fx : FE} {apos cpos : Pos}
section
variable {K : PySem.W.Frag} {mg : Str → Option Value} {σ : L2.St} {ρ : Env} {G H : Hp} {fp : List Addr} {Q : VK} {t : Tag} {xs : List V} {ho : HO} {a : Addr} {y : V} {dy : D}
theorem get_none (c : Conf K G H σ ρ fp) (ha : H a = some ho) (hd : Holds t xs ho) (hy : RdV K G H y dy) (ok : keyOk t xs.length dy = true) (hn : kidIx t xs.length dy = none) (q : Post K mg W (RO K) (fx ρ) σ G H Q) : tG K mg W (RO K) fx σ H fun z H1 => ∃ o, DGet H1 a y o ∧ Q (o.getD z) H1 := by
  refine ⟨ρ, G, fp, c, ?_⟩
  cases e : fx ρ with
  | exc cc fs => rw [e] at q; exact q
  | bad => rw [e] at q; exact q
  | ok z =>
    rw [e] at q
    intro v G1 H1 f1 g1
    obtain ⟨o, h1, _, h2⟩ := kid_dget (g1.conf c).ex (g1.eh _ _ ha) hd (hy.mono g1.gr.ex g1.eh) ok
    refine ⟨o, h1, ?_⟩
    rw [h2 hn]
    exact q v G1 H1 f1 g1
theorem get_some {j : Nat} {k : Rs Opd} (c : Conf K G H σ ρ fp) (ha : H a = some ho) (hd : Holds t xs ho) (hy : RdV K G H y dy) (ok : keyOk t xs.length dy = true) (hj : kidIx t xs.length dy = some j) (q : Post K mg W (RO K) ((fx ρ).bnd fun _ => k) σ G H Q)
    (fin : ∀ G1 H1, Gr G H G1 → Ex H H1 → Ex G1 H1 → Post K mg W (RO K) k σ G1 H1 Q → ∃ v, xs[j]? = some v ∧ Q v H1) : tG K mg W (RO K) fx σ H fun z H1 => ∃ o, DGet H1 a y o ∧ Q (o.getD z) H1 := by
  refine seqE (R := RO K) c q fun z u G1 H1 f1 _ g1 q1 => ?_
  obtain ⟨o, h1, h2, _⟩ := kid_dget (g1.conf c).ex (g1.eh _ _ ha) hd (hy.mono g1.gr.ex g1.eh) ok
  obtain ⟨v, e1, e2⟩ := fin G1 H1 g1.gr g1.eh (g1.conf c).ex q1
  refine ⟨o, h1, ?_⟩
  rw [h2 j v hj e1]
  exact e2
end
theorem get_read {K : PySem.W.Frag} {mg : Str → Option Value} {σ : L2.St} {H : Hp} {Q : VK} (h : tG K mg W (RO K) (eGet fo fk fx) σ H Q) :
    tDGet2 (tG K mg W (RO K) fo) (tG K mg W (RR K) (rdE fk)) (tG K mg W (RO K) fx) σ H Q := by
  obtain ⟨ρ, G, fp, c, q⟩ := h
  unfold eGet at q
  refine ⟨ρ, G, fp, c, ?_⟩
  cases e : fo ρ with
  | exc cc fs => rw [e] at q; exact q
  | bad => rw [e] at q; exact q
  | ok o =>
    rw [e] at q
    simp only [Rs.bnd_ok] at q
    intro v G1 H1 f1 g1
    cases o with
    | tmp o =>
      simp only at q
      split at q
      · next t l z =>
        by_cases hd : dctTag t = true
        · rw [if_pos hd] at q
          obtain ⟨G2, g2⟩ := Got.read c g1 (show rd ρ (.tmp o) = some (.obj t l) from z)
          obtain ⟨a, ho, xs, rfl, h1, h2, h3⟩ := g2.rep.2.obj g2.x
          refine ⟨a, rfl, isD_of h1 h2 hd, ?_⟩
          refine seqE (R := RR K) (g2.conf c) (Post.step g2.gr g2.eh q) fun y w G3 H3 f3 _ g3 q3 => ?_
          have c3 := g3.conf (g2.conf c)
          have hlen := h3.length
          by_cases ok : keyOk t l.length y = true
          · rw [if_pos ok] at q3
            rw [← hlen] at ok q3
            cases hk : kidIx t xs.length y with
            | none =>
              rw [hk] at q3
              exact get_none c3 (g3.eh _ _ h1) h2 g3.rep.2 ok hk q3
            | some j =>
              rw [hk] at q3
              refine get_some c3 (g3.eh _ _ h1) h2 g3.rep.2 ok hk q3 fun G4 H4 gr4 eh4 x4 q4 => ?_
              split at q4
              · next d hd2 =>
                obtain ⟨u, e1, e2⟩ := h3.get hd2
                exact ⟨u, e1, q4 u G4 H4 [] ⟨Gr.refl, Ex.refl _, x4, .dat (e2.mono (g3.gr.trans g3.eh gr4).ex), List.nodup_nil, fun _ z => by cases z⟩⟩
              · exact q4.elim
          · rw [if_neg ok] at q3; exact q3.elim
        · rw [if_neg hd] at q; exact q.elim
      · exact q.elim
    | plc i p =>
      simp only at q
      obtain ⟨ef, v0, h0, ha⟩ := g1.rep
      split at q
      · next t l hp =>
        by_cases hd : dctTag t = true
        · rw [if_pos hd] at q
          obtain ⟨a, ho, xs, fl, rfl, h1, h2, h3⟩ := plc_at (g1.conf c) h0 ha hp
          refine ⟨a, rfl, isD_of h1 h2 hd, ?_⟩
          refine seqE (R := RR K) (g1.conf c) (Post.step g1.gr g1.eh q) fun y w G3 H3 f3 _ g3 q3 => ?_
          have c3 := g3.conf (g1.conf c)
          have hlen := h3.length
          by_cases ok : keyOk t l.length y = true
          · rw [if_pos ok] at q3
            rw [← hlen] at ok q3
            cases hk : kidIx t xs.length y with
            | none =>
              rw [hk] at q3
              exact get_none c3 (g3.eh _ _ h1) h2 g3.rep.2 ok hk q3
            | some j =>
              rw [hk] at q3
              refine get_some c3 (g3.eh _ _ h1) h2 g3.rep.2 ok hk q3 fun G4 H4 gr4 eh4 x4 q4 => ?_
              have ha4 := (ha.mono g3.eh).mono eh4
              obtain ⟨a', ho', xs', fl', ea, k1, k2, k3⟩ := plc_at (c3.grow gr4 eh4 x4) h0 ha4 hp
              cases ea
              have eo : ho' = ho := by
                have := eh4 _ _ (g3.eh _ _ h1)
                rw [k1] at this
                exact Option.some.inj this
              subst eo
              have exs : xs' = xs := by rw [← k2.kids, ← h2.kids]
              subst exs
              split at q4
              · next d hd2 =>
                obtain ⟨v', fd, e1, e2, e3⟩ := k3.get hd2
                cases e2 with
                | dat kd => exact ⟨v', e1, q4 v' G4 H4 [] ⟨Gr.refl, Ex.refl _, x4, .dat kd, List.nodup_nil, fun _ z => by cases z⟩⟩
              · next t' l' hd2 =>
                obtain ⟨v', fd, e1, e2, e3⟩ := k3.get hd2
                exact ⟨v', e1, q4 v' G4 H4 [] ⟨Gr.refl, Ex.refl _, x4, ⟨rfl, v0, h0, At.snoc k1 (by rw [k2.kids]; exact e1) ha4⟩, List.nodup_nil, fun _ z => by cases z⟩⟩
              · exact q4.elim
              · exact q4.elim
          · rw [if_neg ok] at q3; exact q3.elim
        · rw [if_neg hd] at q; exact q.elim
      · exact q.elim
theorem ee_get (hu : X.A.units + 1 < cLine) (ho : EE X W o fo) (hk : EE X W e fk) (hx : EE X W f fx) (m : M2 X o "get" apos e f cpos) : EE X W (.Call (.Attribute o "get" apos) [e, f] [] cpos) (eGet fo fk fx) :=
  PEimp (pe_dget2 hu ho (to_rd hk) hx m) fun _ _ _ q => get_read q
end
end FL
namespace FL
open PySem L2
open Classical in
noncomputable def forO (i : Nat) (o : O) (b : FG) (f : FS) : List D → FS
  | [] => fun ρ => if ρ[i]? = some (some o) then .ok .nx ρ else .bad
  | d :: l => fun ρ => if ρ[i]? = some (some o) then (match b d ρ with
    | none => .bad
    | some ρ1 => (f ρ1).turn (forO i o b f l)) else .bad
noncomputable def sForO (i : Nat) (b : FG) (f : FS) : FS := fun ρ => match ρ[i]? with
  | some (some (.node .lst l)) => (match dats l with
    | some ds => forO i (.node .lst l) b f ds ρ
    | none => .bad)
  | _ => .bad
section
variable {X : Cx} {W : WX} {kp : List Nat} {it tg : Expr} {b : FG} {a : List Stmt} {fa : FS} {pos : Pos} {i : Nat}
theorem Keep.less {σ σ' : L2.St} (h : Keep (i :: kp) σ σ') : Keep kp σ σ' := ⟨h.1, fun j hj => h.2 j (List.mem_cons_of_mem _ hj)⟩
theorem ss_forO (hp : PassesOwn (model X.prog X.w) X.A X.env X.xe) (hc : X.calm = true) (hi : EE X W it (eVar i)) (hg : GG X (i :: kp) tg b) (ha : SB X W (i :: kp) a fa) (hs : ∀ x, foldedSetIterable it X.env x = pure x) :
    SS X W kp (.For tg it a [] pos) (sForO i b fa) := PSimp (ps_for hp hc (pi_list hi) hg ha hs) fun D σ H ⟨ρ, G, fp, cf, q⟩ => by
  have q : PostS X.K X.mg W kp (sForO i b fa ρ) D σ G H fp := q
  unfold sForO at q
  refine ⟨ρ, G, fp, cf, ?_⟩
  have ev : eVar i ρ = match ρ[i]? with
    | some (some (.dat d)) => .ok (.tmp (.dat d))
    | some (some (.node t l)) => .ok (.plc i [])
    | some (some (.pck l)) => .ok (.plc i [])
    | _ => .bad := rfl
  split at q
  · next l hl =>
    split at q
    · next ds hds =>
      rw [ev, hl]
      intro v G1 H1 f1 g1
      obtain ⟨ef, v0, h0, hat⟩ := g1.rep
      have hv : v = v0 := (show At H1 v0 [] v from hat).symm ▸ rfl
      have c1 := g1.conf cf
      have hp0 : getP ρ i [] = some (.node .lst l) := by
        unfold getP
        rw [hl]
        simp
      obtain ⟨r, ho, xs, fl, ew, h1, h2, h3⟩ := plc_at c1 h0 hat hp0
      have h2 : ho = .lst xs := h2
      subst h2
      have ev0 : v0 = .ref r := by rw [← hv, ew]
      refine ⟨r, ew, ⟨xs, SqL.of h1⟩, fun k m σ' H' => m + k = ds.length ∧ σ'[i]? = some (some (.ref r)) ∧ ∃ ρ G fp, Conf X.K G H' σ' ρ fp ∧ PostS X.K X.mg W kp (forO i (.node .lst l) b fa (ds.drop k) ρ) D σ' G H' fp, ⟨ds.length, by simp, by rw [h0, ev0], ρ, G1, fp, c1, PostS.step (Stp.of g1.gr g1.eh) Keep.refl (by rw [List.drop_zero]; exact q)⟩, ?_⟩
      rintro k m σ' H' ⟨em, es, ρ', G', fp', c', q'⟩
      have see : ρ'[i]? = some (some (.node .lst l)) → ∃ xs', SqL X.K H' r xs' ∧ IsDs X.K G' xs' ds := fun hr => by
        have hp1 : getP ρ' i [] = some (.node .lst l) := by
          unfold getP
          rw [hr]
          simp
        obtain ⟨r', ho', xs', fl', ew', k1, k2, k3⟩ := plc_at c' es (show At H' (.ref r) [] (.ref r) from rfl) hp1
        cases ew'
        have k2 : ho' = .lst xs' := k2
        subst k2
        exact ⟨xs', SqL.of k1, dats_is k3 hds⟩
      by_cases hk : k < ds.length
      · have ed : ds.drop k = ds[k] :: ds.drop (k + 1) := List.drop_eq_getElem_cons hk
        rw [ed] at q'
        unfold forO at q'
        by_cases hr : ρ'[i]? = some (some (.node .lst l))
        · rw [if_pos hr] at q'
          obtain ⟨xs', s1, s2⟩ := see hr
          have hlen := s2.length
          refine .inr ⟨walk_list.goes k H' (by omega) s1, fun σ2 H2 => σ2[i]? = some (some (.ref r)) ∧ ∃ ρ G fp, Conf X.K G H2 σ2 ρ fp ∧ PostS X.K X.mg W kp (forO i (.node .lst l) b fa (ds.drop (k + 1)) ρ) D σ2 G H2 fp, fun σ2 H2 h => ⟨m - 1, by omega, by omega, h⟩, fun x H2 y => ?_⟩
          obtain ⟨rfl, hx⟩ := walk_list.yields k H' x H2 (by omega) s1 y
          obtain ⟨v', g1', g2'⟩ := s2.get (show ds[k]? = some ds[k] from List.getElem?_eq_getElem hk)
          rw [hx] at g1'
          cases g1'
          cases zb : b ds[k] ρ' with
          | none => rw [zb] at q'; exact q'.elim
          | some ρ1 =>
            rw [zb] at q'
            have q' : PostS X.K X.mg W kp ((fa ρ1).turn (forO i (.node .lst l) b fa (ds.drop (k + 1)))) D σ' G' _ fp' := q'
            refine ⟨ρ', G', fp', _, c', g2', ρ1, zb, fun σ4 fp4 s4 c4 k4 => ⟨ρ1, G', fp4, c4, ?_⟩⟩
            have e4 : σ4[i]? = some (some (.ref r)) := by rw [k4.2 i List.mem_cons_self]; exact es
            have q4 := PostS.step (Stp.refl.sub s4 : Stp G' _ fp' G' _ fp4) k4.less q'
            cases y2 : fa ρ1 with
            | bad => rw [y2] at q4; exact q4
            | exc cc fs ρ'' => rw [y2] at q4; exact fun cls d σ5 G5 H5 fp5 m5 s c k ef => q4 cls d σ5 G5 H5 fp5 m5 s c k.less ef
            | ok fl2 ρ'' =>
              rw [y2] at q4
              cases fl2 with
              | nx => exact fun σ5 G5 H5 fp5 s c k => ⟨by rw [k.2 i List.mem_cons_self]; exact e4, ρ'', G5, fp5, c, q4.step s k.less⟩
              | ct => exact fun σ5 G5 H5 fp5 s c k => ⟨by rw [k.2 i List.mem_cons_self]; exact e4, ρ'', G5, fp5, c, q4.step s k.less⟩
              | bk => exact fun σ5 G5 H5 fp5 s c k => q4 σ5 G5 H5 fp5 s c k.less
              | rt o => exact fun v5 σ5 G5 H5 f5 fp5 s c k rp nd fr => q4 v5 σ5 G5 H5 f5 fp5 s c k.less rp nd fr
        · rw [if_neg hr] at q'; exact q'.elim
      · have ek : k = ds.length := by omega
        subst ek
        rw [List.drop_length] at q'
        unfold forO at q'
        by_cases hr : ρ'[i]? = some (some (.node .lst l))
        · rw [if_pos hr] at q'
          obtain ⟨xs', s1, s2⟩ := see hr
          have hlen := s2.length
          exact .inl ⟨⟨xs', s1, by omega⟩, q' σ' G' H' fp' Stp.refl c' Keep.refl⟩
        · rw [if_neg hr] at q'; exact q'.elim
    · exact q.elim
  · exact q.elim
end
end FL
namespace FL
open PySem L2 PyProof.Rows
def rSumA (K : PySem.W.Frag) : List V → Hp → VK → Prop := fun vs H Q => ∃ (a : Addr) (ns : List Int), vs = [V.ref a] ∧ (SqL K H a (ns.map V.int) ∨ SqT K H a (ns.map V.int)) ∧ Q (.int ns.sum) H
theorem cr_sumA {X : Cx} (hc : X.calm = true) : CallR X (.builtin "sum") (rSumA X.K) := by
  intro pins s σ H vs us Q I r h
  obtain ⟨a, ns, rfl, hs, q⟩ := h
  rcases hs with hs | hs
  · obtain ⟨its, rv, hl, _⟩ := I.list hs
    rw [Vals.ref1 r]
    exact sum_raw (I.ok.hd hc) hl.isList rv.ints fun h' tk t' hk => ⟨.int _, H, I.kept hk, ⟨_, rfl⟩, q⟩
  · obtain ⟨its, rv, hl, _⟩ := I.tuple hs
    rw [Vals.ref1 r]
    have hi := rv.ints
    obtain ⟨xs, hx⟩ := hi.allInts.items
    have hn : numsOf its.toArray.toList = ns := by rw [show its.toArray.toList = its from rfl, hi.numsOf]
    rw [hx] at hn
    rw [nums_intItems] at hn
    have hl2 : s.heap.IsTuple a (intItems xs) := by
      have : s.heap.IsTuple a its.toArray := hl
      rw [← hx]; exact this
    refine PySem.W.ktm_sumG (I.ok.hd hc) hl2 fun h' tk t' hk => ?_
    rw [preSum_eq, List.take_of_length_le (by simp), hn]
    exact ⟨.int _, H, I.kept hk, ⟨_, rfl⟩, q⟩
def dSum2 : List D → Rs O
  | [d] => match iOfs d with
    | some ns => .ok (.dat (.int ns.sum))
    | none => .bad
  | _ => .bad
theorem sum_F2 {K : PySem.W.Frag} : CallF K (rSumA K) dSum2 := fun {mg W G H σ Q vs ds} ex h q => by
  match ds, h with
  | [], h => exact q.elim
  | [d], h =>
    obtain ⟨v, rfl, h2⟩ := h.one
    simp only [dSum2] at q
    cases e : iOfs d with
    | none => rw [e] at q; exact q.elim
    | some ns =>
      rw [e] at q
      obtain ⟨a, rfl, hs⟩ := h2.iOfs ex e
      exact ⟨a, ns, rfl, hs, Post.dt q ex (.int _)⟩
  | _ :: _ :: _, h => exact q.elim
end FL
namespace FL
open PySem L2
def fz1 (x : Option O) : Option O := x.bind fun o => (freeze o).map .dat
def frzEs (ρ : Env) : Env := ρ.map fz1
def ofFz : Rs Opd → Rs Opd
  | .ok (.tmp o) => if cleanO o = true then .ok (.tmp o) else .bad
  | _ => .bad
def eTry (f : FE) : FE := fun ρ => match f ρ with
  | .bad => ofFz (f (frzEs ρ))
  | r => r
section
variable {K : PySem.W.Frag} {mg : Str → Option Value} {W : WX} {G H : Hp} {fp : List Addr} {σ : L2.St} {ρ : Env}
theorem RepE.frzs : ∀ {σ : L2.St} {ρ : Env} {f g : List Addr}, RepE K G H σ ρ f → (∀ a ∈ f, a ∈ g) → (∀ a ∈ g, G a = none) → RepE K (fz G H g) H σ (frzEs ρ) []
  | _, _, _, _, .nil, _, _ => .nil
  | _, _, _, _, .no t, s, n => .no (RepE.frzs t s n)
  | _, _, _, _, .yes (o := o) (ρ := ρ) h t, s, n => by
    have r2 := RepE.frzs t (fun a ha => s a (List.mem_append_right _ ha)) n
    show RepE _ _ _ _ (fz1 (some o) :: frzEs ρ) []
    cases z : freeze o with
    | none =>
      have e : fz1 (some o) = none := by unfold fz1; rw [Option.bind_some, z]; rfl
      rw [e]; exact .no r2
    | some d =>
      have e : fz1 (some o) = some (.dat d) := by unfold fz1; rw [Option.bind_some, z]; rfl
      have r1 := Rep.freeze h z _ (fun a ha => s a (List.mem_append_left _ ha)) n
      rw [e]
      have := RepE.yes (K := K) (H := H) (.dat r1) r2
      simpa using this
theorem tG_try {fe : FE} {Q : V → Hp → Prop} (h : tG K mg W (RO K) (eTry fe) σ H Q) : tG K mg W (RO K) fe σ H Q := by
  obtain ⟨ρ, G, fp, c, q⟩ := h
  unfold eTry at q
  cases z : fe ρ with
  | ok o => rw [z] at q; exact ⟨ρ, G, fp, c, by rw [z]; exact q⟩
  | exc cc fs => rw [z] at q; exact ⟨ρ, G, fp, c, by rw [z]; exact q⟩
  | bad =>
    rw [z] at q
    simp only at q
    have gn := c.fr
    have c2 : Conf K (fz G H fp) H σ (frzEs ρ) [] := ⟨fz_in c.ex, c.rep.frzs (fun _ h => h) gn, List.nodup_nil, fun _ z => by cases z⟩
    refine ⟨frzEs ρ, fz G H fp, [], c2, ?_⟩
    cases y : fe (frzEs ρ) with
    | bad => rw [y] at q; exact q.elim
    | exc cc fs => rw [y] at q; exact q.elim
    | ok o =>
      rw [y] at q
      cases o with
      | plc i p => exact q.elim
      | tmp o =>
        by_cases co : cleanO o = true
        · have q : Post K mg W (RO K) (.ok (.tmp o)) σ G H Q := by
            have q : Post K mg W (RO K) (if cleanO o = true then .ok (.tmp o) else .bad) σ G H Q := q
            rw [if_pos co] at q; exact q
          intro v G' H' f g
          have lv : ∀ a ∈ fp, ∃ u, H' a = some u ∧ NotT u := fun a ha => by
            obtain ⟨u, h1, h2⟩ := c.rep.live a ha
            exact ⟨u, g.eh a u h1, h2⟩
          have r : Rep K G' H' v o f := g.rep
          refine q v (unf G' fp) H' f ⟨⟨fun a u e => ?_, fun a u e t k => ?_⟩, g.eh, fun a u e => ?_, r.clean g.x lv co, g.nd, fun b hb => ⟨?_, (g.fr b hb).2⟩⟩
          · unfold unf
            have na : a ∉ fp := fun m => by
              have := c.fr a m
              rw [e] at this; cases this
            rw [if_neg na]
            exact g.gr.ex a u (fz_ex gn a u e)
          · unfold unf
            by_cases na : a ∈ fp
            · rw [if_pos na]
            · rw [if_neg na]
              exact g.gr.old a u e t (by rw [fz_not na]; exact k)
          · unfold unf at e
            by_cases na : a ∈ fp
            · rw [if_pos na] at e; cases e
            · rw [if_neg na] at e; exact g.x a u e
          · unfold unf
            by_cases na : b ∈ fp
            · rw [if_pos na]
            · rw [if_neg na]; exact (g.fr b hb).1
        · have q : Post K mg W (RO K) (if cleanO o = true then .ok (.tmp o) else .bad) σ G H Q := q
          rw [if_neg co] at q; exact q.elim
theorem tG_tryB {fe : FE} {Q : V → Hp → Prop} (h : tG K mg W RB (bE (eTry fe)) σ H Q) : tG K mg W RB (bE fe) σ H Q := by
  obtain ⟨ρ, G, fp, c, q⟩ := h
  cases z : fe ρ with
  | ok o => exact ⟨ρ, G, fp, c, by unfold bE dE eTry at q; unfold bE dE; rw [z] at q ⊢; exact q⟩
  | exc cc fs => exact ⟨ρ, G, fp, c, by unfold bE dE eTry at q; unfold bE dE; rw [z] at q ⊢; exact q⟩
  | bad =>
    have gn := c.fr
    have c2 : Conf K (fz G H fp) H σ (frzEs ρ) [] := ⟨fz_in c.ex, c.rep.frzs (fun _ h => h) gn, List.nodup_nil, fun _ z => by cases z⟩
    refine ⟨frzEs ρ, fz G H fp, [], c2, ?_⟩
    unfold bE dE eTry at q
    rw [z] at q
    simp only at q
    unfold bE dE
    cases y : fe (frzEs ρ) with
    | bad => rw [y] at q; exact q.elim
    | exc cc fs => rw [y] at q; exact q.elim
    | ok o =>
      rw [y] at q
      cases o with
      | plc i p => exact q.elim
      | tmp o =>
        by_cases co : cleanO o = true
        · have e1 : ofFz (.ok (.tmp o)) = .ok (.tmp o) := by show (if cleanO o = true then _ else _) = _; rw [if_pos co]
          rw [e1] at q
          simp only [Rs.bnd_ok] at q ⊢
          cases y2 : dOf (Opd.tmp o) with
          | none => rw [y2] at q; exact q.elim
          | some d =>
            rw [y2] at q
            simp only [toRs_some, Rs.bnd_ok] at q ⊢
            cases y3 : bOf d with
            | none => rw [y3] at q; exact q.elim
            | some b =>
              rw [y3] at q
              intro v G' H' f g
              have lv : ∀ a ∈ fp, ∃ u, H' a = some u ∧ NotT u := fun a ha => by
                obtain ⟨u, h1, h2⟩ := c.rep.live a ha
                exact ⟨u, g.eh a u h1, h2⟩
              refine q v (unf G' fp) H' f ⟨⟨fun a u e => ?_, fun a u e t k => ?_⟩, g.eh, fun a u e => ?_, g.rep, g.nd, fun b hb => ⟨?_, (g.fr b hb).2⟩⟩
              · unfold unf
                have na : a ∉ fp := fun m => by
                  have := c.fr a m
                  rw [e] at this; cases this
                rw [if_neg na]
                exact g.gr.ex a u (fz_ex gn a u e)
              · unfold unf
                by_cases na : a ∈ fp
                · rw [if_pos na]
                · rw [if_neg na]
                  exact g.gr.old a u e t (by rw [fz_not na]; exact k)
              · unfold unf at e
                by_cases na : a ∈ fp
                · rw [if_pos na] at e; cases e
                · rw [if_neg na] at e; exact g.x a u e
              · unfold unf
                by_cases na : b ∈ fp
                · rw [if_pos na]
                · rw [if_neg na]; exact (g.fr b hb).1
        · have e1 : ofFz (.ok (.tmp o)) = .bad := by show (if cleanO o = true then _ else _) = _; rw [if_neg co]
          rw [e1] at q
          exact q.elim
theorem et_try {X : Cx} {e : Expr} {fe : FE} (h : ET X W e (bE fe)) : ET X W e (bE (eTry fe)) := PTimp h fun σ H Q q => tG_tryB q
theorem ee_try {X : Cx} {e : Expr} {fe : FE} (h : EE X W e fe) : EE X W e (eTry fe) := PEimp h fun σ H Q q => tG_try q
end
end FL
namespace FL
open PySem L2
section
variable {X : Cx} {e : Expr} {es : List Expr} {ta : TA} {p p1 p2 pos : Pos}
theorem pe_binit {pl : Sem Bool} {B : Addr} (hg : Gl X "TollError") (hm : X.mg "TollError" = some (.ref B)) (hS : PySem.W.specialIn X.K (.ref B) "__getattribute__" = some (some (.builtin "type.__getattribute__"))) (hT : PySem.W.typeIn X.K (.ref B) = some (.type "type")) (hR : PySem.W.readsIn X.K B (.type "type") = true)
    (vV : PySem.W.findCls X.K (.ref B) (.type "type") "__init__" = some (.val (.builtin "ValueError.__init__"))) (ha : PA X (e :: es) ta)
    (hc : eval (.Call (.Attribute (.Name "TollError" p1) "__init__" p2) (e :: es) [] pos) X.env = (do
      let ov ← eval (.Name "TollError" p1) X.env
      standAt p2.atName
      let (f, first) ← holding [ov] (getMethod ov "__init__" pl)
      callWith pos f first (backTo pos (starEach (e :: es) X.env)) (backToKw pos (keywordEach [] X.env))))
    (he : starEach (e :: es) X.env = (false, eval e X.env) :: starEach es X.env := by rfl) (hpl : (backTo pos (starEach es X.env)).any (·.1) = false := by rfl) :
    PE X (.Call (.Attribute (.Name "TollError" p1) "__init__" p2) (e :: es) [] pos) (tVeI X.K ta) := by
  refine ⟨fun pins s σ H Q I h => ?_⟩
  refine PySem.W.methodCall_KW (ld_glob I hg hm ?_) hc
  obtain ⟨m, fr⟩ := I.fr
  refine PySem.W.method_of_cls fr I.ok.mod.kin hS (PySem.W.cls_val fr I.ok.mod.kin hT hR vV (by decide +kernel) ?_)
  show wpAny _ _ (callWith pos (Value.builtin "ValueError.__init__") [] (backTo pos (starEach (e :: es) X.env)) []) _ _ _
  refine PyProof.Rows.callWith_method1 (thn (ha.run pos pins _ σ H _ (I.tok _) h) fun us s1 ⟨vs, H1, I1, r1, a, C, ws, ev, hl, T, ea, q⟩ => ?_) he hpl
  subst ev
  cases r1 with
  | @cons _ u0 _ ur ra rw' =>
    obtain rfl : u0 = Value.ref a := ra
    have hlen : ur.length ≤ sizeLine := by
      rw [← Paired.length rw', sizeLine_eq]
      omega
    exact oinit_ok T I1 ea hlen fun s' J => ⟨.non, H1, J, rfl, q⟩
end
theorem call_eq {env : PySem.Env} {s : Str} {m : Str} {j : Nat} {p1 p2 p3 p4 pos : Pos} {pl : Sem Bool} (hpl : pl = (do return (← importBound (.Name "TollError" p1) env).getD true)) (hl : (p2.endLine == pos.line) = true) :
    eval (.Call (.Attribute (.Name "TollError" p1) "__init__" p2) [.Name s p3, .Constant (.str m) j p4] [] pos) env = (do
      let ov ← eval (.Name "TollError" p1) env
      standAt p2.atName
      let (f, first) ← holding [ov] (getMethod ov "__init__" pl)
      callWith pos f first (backTo pos (starEach [.Name s p3, .Constant (.str m) j p4] env)) (backToKw pos (keywordEach [] env))) := by
  subst hpl
  have e : methodCallPos true (.Name "TollError" p1) env p2 pos = pure pos := by unfold methodCallPos; rw [hl]; rfl
  show (do
      let ov ← eval (.Name "TollError" p1) env
      standAt p2.atName
      let (f, first) ← holding [ov] (getMethod ov "__init__" (do return (← importBound (.Name "TollError" p1) env).getD true))
      let callPos ← methodCallPos true (.Name "TollError" p1) env p2 pos
      callWith callPos f first (backTo pos (starEach [.Name s p3, .Constant (.str m) j p4] env)) (backToKw pos (keywordEach [] env))) = _
  rw [e]
  rfl
def spInit (K : PySem.W.Frag) (C : Addr) (ns : List Str) : Sp := fun vs H Q _ => ∃ (a : Addr) (us : List V), vs = .ref a :: us ∧ us.length = ns.length ∧ OexC K C ∧ (∀ f ∈ ns, PySem.W.findIn K (.ref C) f = some none) ∧ H a = some (exo a C none) ∧
  ∀ (dx : Addr) (H2 : Hp), H dx = none → dx ≠ a → H2 a = some (exo a C (some dx)) → H2 dx = some (exd dx (ns.zip us).reverse) → (∀ b, b ≠ a → b ≠ dx → H2 b = H b) → Q .non H2
def tFlds (K : PySem.W.Frag) : Nat → List Str → TS
  | _, [] => tNext
  | j, f :: r => tSeq (tOst K f (tVar 0) (tVar j)) (tFlds K (j + 1) r)
theorem flds_old {K : PySem.W.Frag} {C a dx : Addr} {σ : L2.St} {D : Ends} (T : OexC K C) (h0 : σ[0]? = some (some (.ref a))) (hda : dx ≠ a) : ∀ (r : List Str) (ys : List V) (j : Nat) (fs : List (Str × V)) (H : Hp), ys.length = r.length → (∀ i y, ys[i]? = some y → σ[j + i]? = some (some y)) →
    (∀ f ∈ r, PySem.W.findIn K (.ref C) f = some none) → H a = some (exo a C (some dx)) → H dx = some (exd dx fs) → fs.length + r.length ≤ 900 →
    (∀ H2 : Hp, H2 a = some (exo a C (some dx)) → H2 dx = some (exd dx ((r.zip ys).reverse ++ fs)) → (∀ b, b ≠ a → b ≠ dx → H2 b = H b) → D.nx σ H2) → tFlds K j r D σ H
  | [], [], j, fs, H, _, _, _, ha, hd, _, q => q H ha hd fun _ _ _ => rfl
  | [], _ :: _, _, _, _, h, _, _, _, _, _, _ => by cases h
  | f :: r, [], _, _, _, h, _, _, _, _, _, _ => by cases h
  | f :: r, y :: ys, j, fs, H, hl, hs, hf, ha, hd, hn, q => by
    have hl : ys.length = r.length := by simpa using hl
    have hn : fs.length + (r.length + 1) ≤ 900 := hn
    have hj : σ[j]? = some (some y) := hs 0 y rfl
    refine ⟨y, hj, .ref a, h0, a, C, rfl, T, hf f List.mem_cons_self, .inr ⟨dx, fs, ha, hd, by omega, ?_⟩⟩
    refine flds_old T h0 hda r ys (j + 1) ((f, y) :: fs) _ hl (fun i z hz => ?_) (fun g hg => hf g (List.mem_cons_of_mem _ hg)) ?_ upd_same (by simp; omega) fun H2 g1 g2 g3 => q H2 g1 ?_ fun b h1 h2 => ?_
    · have := hs (i + 1) z hz
      rwa [Nat.add_assoc, Nat.add_comm 1 i]
    · rw [upd_ne (Ne.symm hda)]; exact ha
    · rw [g2]
      simp [List.zip_cons_cons]
    · rw [g3 b h1 h2, upd_ne h2]
theorem flds_new {K : PySem.W.Frag} {C a : Addr} {σ : L2.St} {D : Ends} {H : Hp} (T : OexC K C) (h0 : σ[0]? = some (some (.ref a))) (f : Str) (r : List Str) (y : V) (ys : List V) (hl : ys.length = r.length) (hs : ∀ i z, (y :: ys)[i]? = some z → σ[1 + i]? = some (some z))
    (hf : ∀ g ∈ f :: r, PySem.W.findIn K (.ref C) g = some none) (ha : H a = some (exo a C none)) (hn : r.length ≤ 800)
    (q : ∀ (dx : Addr) (H2 : Hp), H dx = none → dx ≠ a → H2 a = some (exo a C (some dx)) → H2 dx = some (exd dx ((f :: r).zip (y :: ys)).reverse) → (∀ b, b ≠ a → b ≠ dx → H2 b = H b) → D.nx σ H2) : tFlds K 1 (f :: r) D σ H := by
  have hj : σ[1]? = some (some y) := hs 0 y rfl
  refine ⟨y, hj, .ref a, h0, a, C, rfl, T, hf f List.mem_cons_self, .inl ⟨ha, fun dx hd hda => ?_⟩⟩
  refine flds_old T h0 hda r ys 2 [(f, y)] _ hl (fun i z hz => ?_) (fun g hg => hf g (List.mem_cons_of_mem _ hg)) upd_same ?_ (by simp; omega) fun H2 g1 g2 g3 => q dx H2 hd hda g1 ?_ fun b h1 h2 => ?_
  · have := hs (i + 1) z hz
    rwa [show 1 + (i + 1) = 2 + i by omega] at this
  · rw [upd_ne hda, upd_same]
  · rw [g2]
    simp [List.zip_cons_cons]
  · rw [g3 b h1 h2, upd_ne h1, upd_ne h2]
def locN (sc : Scope) (x : Str) : Bool := decide (sc.names.lookup x = some .local) && (!(x == ("__debug__" : Str)) && !(x == ("__classdict__" : Str)))
theorem locN_ok {sc : Scope} {x : Str} (h : locN sc x = true) : Vis sc x ∧ (x == ("__debug__" : Str)) = false ∧ (x == ("__classdict__" : Str)) = false := by
  unfold locN at h
  simp only [Bool.and_eq_true, decide_eq_true_eq, Bool.not_eq_true'] at h
  exact ⟨.inl h.1, h.2⟩
def asgB (sc : Scope) (N : List Str) (s : Str) : Nat → List Str → List Stmt → Bool
  | _, [], [] => true
  | j, f :: r, .Assign [.Attribute (.Name s' _) f' _] (.Name x _) _ :: rest => decide (s' = s) && (decide (f' = f) && (decide (N[j]? = some x) && (locN sc x && asgB sc N s (j + 1) r rest)))
  | _, _, _ => false
def initB (sc : Scope) (N : List Str) (ns : List Str) : List Stmt → Bool
  | .Expr (.Call (.Attribute (.Name b _) i p2) [.Name s _, .Constant (.str _) _ _] [] pos) _ :: rest => (p2.endLine == pos.line) && (decide (i = ("__init__" : Str)) && (decide (b = ("TollError" : Str)) && (decide (sc.names.lookup ("TollError" : Str) = some .globalImplicit) && (decide (N[0]? = some s) && (locN sc s && asgB sc N s 1 ns rest)))))
  | _ => false
section
variable {X : Cx}
theorem asgB_ok {s : Str} (h0 : X.N[0]? = some s) (hs : locN X.env.scope s = true) : ∀ (ns : List Str) (j : Nat) (body : List Stmt), asgB X.env.scope X.N s j ns body = true → PSs X body (tFlds X.K j ns)
  | [], j, [], _ => pss_nil
  | [], j, _ :: _, h => by simp [asgB] at h
  | f :: r, j, [], h => by simp [asgB] at h
  | f :: r, j, st :: rest, h => by
    unfold asgB at h
    split at h
    · next h1 _ => cases h1
    · next f2 r2 s2 p1 f3 p2 x p3 pos rest2 e1 e2 =>
      cases e1
      cases e2
      simp only [Bool.and_eq_true, decide_eq_true_eq] at h
      obtain ⟨rfl, rfl, h3, h4, h5⟩ := h
      obtain ⟨v1, v2, v3⟩ := locN_ok hs
      obtain ⟨w1, w2, w3⟩ := locN_ok h4
      exact pss_cons (ps_ost (pe_var h0 v1 v2 v3) (pe_var h3 w1 w2 w3)) (asgB_ok h0 hs _ _ _ h5)
    · cases h
theorem initB_ok {B : Addr} {ns : List Str} {body : List Stmt} (h : initB X.env.scope X.N ns body = true) (hm : X.mg "TollError" = some (.ref B)) (hS : PySem.W.specialIn X.K (.ref B) "__getattribute__" = some (some (.builtin "type.__getattribute__"))) (hT : PySem.W.typeIn X.K (.ref B) = some (.type "type")) (hR : PySem.W.readsIn X.K B (.type "type") = true)
    (vV : PySem.W.findCls X.K (.ref B) (.type "type") "__init__" = some (.val (.builtin "ValueError.__init__"))) : ∃ m, PSs X body (tSeq (tDrop (tVeI X.K (tCons (tVar 0) (tCons (tC (.str m)) tNil)))) (tFlds X.K 1 ns)) := by
  unfold initB at h
  split at h
  · next b2 p1 i p2 s p3 m j p4 p5 p6 rest =>
    simp only [Bool.and_eq_true, decide_eq_true_eq, Bool.not_eq_true'] at h
    obtain ⟨h0, rfl, rfl, h1, h3, h4, h5⟩ := h
    obtain ⟨v1, v2, v3⟩ := locN_ok h4
    exact ⟨m, pss_cons (ps_expr (pe_binit h1 hm hS hT hR vV (pa_cons (pe_var h3 v1 v2 v3) (pa_cons pe_str pa_nil)) (call_eq rfl h0))) (asgB_ok h3 h4 ns 1 rest h5)⟩
  · cases h
end
theorem start_at {N : List Str} {vs : List V} {i : Nat} {v : V} (h : vs[i]? = some v) : (L2.start N vs)[i]? = some (some v) := by
  have hi : i < vs.length := (List.getElem?_eq_some_iff.mp h).1
  unfold L2.start
  rw [List.getElem?_append_left (by rw [List.length_map]; exact hi), List.getElem?_map, h]
  rfl
theorem init_ok {P : Program} {w : World} {K : PySem.W.Frag} {mg : Str → Option Value} {base : Heap} {x qual : Str} {params : Arguments} {body : List Stmt} {scope : Scope} {f B C : Addr} {fd : FuncData} {CX : CXT} {N ps ns : List Str} {k : Nat} (F : FunD K x qual params body scope [] [] f fd) (S : FnScope N ps scope)
    (hb : initB scope N ns body = true) (hps : ps.length = ns.length + 1) (hne : ns ≠ []) (hn : ns.length ≤ 800) (hm : mg "TollError" = some (.ref B)) (hS : PySem.W.specialIn K (.ref B) "__getattribute__" = some (some (.builtin "type.__getattribute__"))) (hT : PySem.W.typeIn K (.ref B) = some (.type "type")) (hR : PySem.W.readsIn K B (.type "type") = true)
    (vV : PySem.W.findCls K (.ref B) (.type "type") "__init__" = some (.val (.builtin "ValueError.__init__"))) : FnOk P w K mg base CX (k + 1) f fd ps (spInit K C ns) := by
  refine F.ok S (fun vs H Q E h => ?_) fun cdv A outer s H vs Q E hr q => ?_
  · obtain ⟨a, us, rfl, h2, _⟩ := h
    rw [hps, List.length_cons, h2]
  · obtain ⟨a, us, rfl, h2, T, hf, ha, q⟩ := q
    obtain ⟨m, hp⟩ := initB_ok (X := cxOf CX P w K mg base N qual scope f cdv A outer s H E) (B := B) hb hm hS hT hR vV
    refine ⟨_, hp, ?_⟩
    have z0 : (L2.start N (V.ref a :: us))[0]? = some (some (V.ref a)) := start_at rfl
    obtain ⟨g, r, rfl⟩ := List.exists_cons_of_ne_nil hne
    cases us with
    | nil => cases h2
    | cons y ys =>
      have h2 : ys.length = r.length := by simpa using h2
      have hn : r.length + 1 ≤ 800 := hn
      refine ⟨V.ref a, z0, ?_⟩
      refine ⟨a, C, [.str m], rfl, by show 1 ≤ 1000; omega, T, ha, ?_⟩
      exact flds_new T z0 g r y ys h2 (fun i z hz => start_at (by rw [Nat.add_comm]; exact hz)) hf ha (by omega) q
def sRaiseF (c : Str) (ns : List Str) (fa : FA) : FS := fun ρ => match fa ρ with
  | .ok ds => if ds.length = ns.length ∧ ns ≠ [] ∧ ns.length ≤ 800 then .exc c (ns.zip ds).reverse ρ else .bad
  | .exc cc fs => .exc cc fs ρ
  | .bad => .bad
theorem zipF_fst {α β : Type} : ∀ {a : List α} {b : List β}, b.length = a.length → (a.zip b).map (·.1) = a
  | [], _, _ => by simp
  | x :: a, [], h => by cases h
  | x :: a, y :: b, h => by
    rw [List.zip_cons_cons, List.map_cons, zipF_fst (by simpa using h)]
theorem zipF_snd {α β : Type} : ∀ {a : List α} {b : List β}, b.length = a.length → (a.zip b).map (·.2) = b
  | [], [], _ => rfl
  | [], _ :: _, h => by cases h
  | x :: a, [], h => by cases h
  | x :: a, y :: b, h => by
    rw [List.zip_cons_cons, List.map_cons, zipF_snd (by simpa using h)]
theorem IsDs.app {K : PySem.W.Frag} {G : Hp} : ∀ {a b : List V} {c d : List D}, IsDs K G a c → IsDs K G b d → IsDs K G (a ++ b) (c ++ d)
  | _, _, _, _, .nil, h => h
  | _, _, _, _, .cons x r, h => .cons x (IsDs.app r h)
theorem IsDs.rev {K : PySem.W.Frag} {G : Hp} : ∀ {a : List V} {c : List D}, IsDs K G a c → IsDs K G a.reverse c.reverse
  | _, _, .nil => .nil
  | _, _, .cons x r => by
    rw [List.reverse_cons, List.reverse_cons]
    exact IsDs.app (IsDs.rev r) (.cons x .nil)
section
variable {X : Cx} {W : WX} {kp : List Nat}
theorem ss_raiseF {x : Str} {C fI : Addr} {k : Nat} {fd : FuncData} {ps ns : List Str} {e : Expr} {es : List Expr} {fa : FA} {p pos pos2 : Pos} (hc : X.calm = true) (tk : Takes X W) (T : OexC X.K C) (hf : ∀ f ∈ ns, PySem.W.findIn X.K (.ref C) f = some none) (iC : PySem.W.findIn X.K (.ref C) "__init__" = some (some (.ref fI)))
    (tI : PySem.W.typeIn X.K (.ref fI) = some (.type "function")) (F1 : FnOk X.prog X.w X.K X.mg X.base (L2.CX X.prog X.w) k fI fd ps (spInit X.K C ns)) (hr : Room (k + 1) X.A) (hb : Binds X.K fd ps []) (hx : Passes (L2.CX X.prog X.w) X (fun _ _ _ => False)) (hg : Gl X x) (hm : X.mg x = some (.ref C)) (ha : EA X W (e :: es) fa)
    (hdb : (x == ("__debug__" : Str)) = false) (he : starEach (e :: es) X.env = (false, eval e X.env) :: starEach es X.env) (hpl : (backTo pos (starEach es X.env)).any (·.1) = false) : SS X W kp (.Raise (some (.Call (.Name x p) (e :: es) [] pos)) none pos2) (sRaiseF x ns fa) :=
  PSimp (ps_raise hc tk (pmk_oex T iC tI F1 hr hb .nil hx hg hm ha hdb he hpl)) fun D σ H ⟨ρ, G, fp, c, q⟩ => by
    refine ⟨ρ, G, fp, c, ?_⟩
    unfold sRaiseF at q
    cases z : fa ρ with
    | bad => rw [z] at q; exact q
    | exc cc fs =>
      rw [z] at q
      exact fun cls d G' H' m gr eh x ef => q cls d σ G' H' fp m (Stp.of gr eh) (c.grow gr eh x) (Keep.refl ..) ef
    | ok ds =>
      rw [z] at q
      simp only at q
      intro vs G1 H1 f g
      by_cases hl : ds.length = ns.length ∧ ns ≠ [] ∧ ns.length ≤ 800
      · rw [if_pos hl] at q
        obtain ⟨l1, l2, l3⟩ := hl
        have rep : IsDs X.K G1 vs ds := g.rep.2
        have lv : vs.length = ds.length := rep.length
        refine ⟨by omega, fun a na => ?_⟩
        refine ⟨a, vs ++ [], rfl, by rw [List.append_nil]; omega, T, hf, upd_same, fun dx H2 n1 n2 e1 e2 e3 => ⟨rfl, dx, (ns.zip vs).reverse, e1, by rw [List.append_nil] at e2; exact e2, by rw [upd_ne n2] at n1; exact n1, ?_⟩⟩
        rw [upd_ne n2] at n1
        have eH : upd (del H2 a) dx (.xd (ns.zip vs).reverse) = upd H1 dx (.xd (ns.zip vs).reverse) := by
          funext b
          by_cases h1 : b = dx
          · rw [h1, upd_same, upd_same]
          · rw [upd_ne h1, upd_ne h1]
            by_cases h2 : b = a
            · rw [h2, del_same, na]
            · rw [del_ne h2, e3 b h2 h1, upd_ne h2]
        rw [eH]
        have gr : Gr G1 H1 (upd G1 dx (.xd (ns.zip vs).reverse)) := Gr.new n1 g.x
        have eh : Ex H1 (upd H1 dx (.xd (ns.zip vs).reverse)) := Ex.new n1
        have x2 : Ex (upd G1 dx (.xd (ns.zip vs).reverse)) (upd H1 dx (.xd (ns.zip vs).reverse)) := g.x.upd2 n1
        refine q (.ref C) (some dx) σ (upd G1 dx (.xd (ns.zip vs).reverse)) _ fp hm ((Stp.of g.gr g.eh).trans (Stp.of gr eh)) ((g.conf c).grow gr eh x2) (Keep.refl ..) (.inr ⟨?_, dx, (ns.zip vs).reverse, rfl, upd_same, upd_same, ?_, ?_⟩)
        · intro h
          have := congrArg List.length h
          rw [List.length_reverse, List.length_zip, l1] at this
          have h0 : ns.length ≠ 0 := fun h => l2 (List.length_eq_zero_iff.mp h)
          simp at this
          exact h0 (by simpa using congrArg List.length this)
        · rw [List.map_reverse, List.map_reverse, zipF_fst (by omega), zipF_fst l1]
        · rw [List.map_reverse, List.map_reverse, zipF_snd (by omega), zipF_snd l1]
          exact IsDs.rev (rep.mono (Ex.new (L2.Same.free g.x n1)))
      · rw [if_neg hl] at q; exact q.elim
end
end FL
namespace FL
open PySem L2
def rGetL (K : PySem.W.Frag) : V → V → Hp → VK → Prop := fun x y H Q => ∃ (p : Addr) (xs : List V) (k : Int) (v : V), x = .ref p ∧ y = .int k ∧ SqL K H p xs ∧ 0 ≤ k ∧ k < 2 ^ 63 ∧ xs[k.toNat]? = some v ∧ Q v H
theorem pg_list {X : Cx} : PGet X (rGetL X.K) := by
  intro pins s σ H o i ov iv Q I r1 r2 h
  obtain ⟨p, xs, k, v, rfl, rfl, hq, h0, h63, hv, q⟩ := h
  obtain rfl : ov = Value.ref p := r1
  obtain ⟨t, rfl⟩ := r2
  obtain ⟨its, r, pl, hz⟩ := I.list hq
  obtain ⟨u, eu, ru⟩ := r.get hv
  exact wpAny_getItem_list pl.isList h0 h63 (by simpa using eu) ⟨v, H, I, ru, q⟩
def okAg (k : Int) : Prop := 0 ≤ k ∧ k < 16777216
noncomputable instance (k : Int) : Decidable (okAg k) := Classical.propDecidable _
noncomputable def sAugL (i : Nat) (fi fe : FE) : FS := fun ρ => match ρ[i]? with
  | some (some (.node .lst l)) => (dE fi ρ).thn ρ fun d => fun ρ => match d with
    | .int k => if okAg k then (match l[k.toNat]? with
        | some (.dat (.int x)) => (dE fe ρ).thn ρ fun d => fun ρ => (match d with
          | .int y => (muRes muSet2 i [] [.dat (.int k), .dat (.int (x + y))] ρ).thn fun _ => sNx
          | _ => .bad)
        | _ => .bad) else .bad
    | _ => .bad
  | _ => .bad
section
variable {X : Cx} {W : WX} {kp : List Nat} {x : Str} {i : Nat} {e ie : Expr} {fi fe : FE} {p tpos pos : Pos}
theorem reps_at {K : PySem.W.Frag} {G H : Hp} : ∀ {vs : List V} {os : List O} {f : List Addr} {k : Nat} {d : D}, Reps K G H vs os f → os[k]? = some (.dat d) → ∃ v, vs[k]? = some v ∧ IsD K G v d
  | _, _, _, _, _, .nil, e => by simp at e
  | _, _, _, 0, d, .cons h t, e => by
    simp at e
    subst e
    cases h with
    | dat h => exact ⟨_, rfl, h⟩
  | _, _, _, k + 1, d, .cons h t, e => by
    obtain ⟨v, h1, h2⟩ := reps_at (k := k) t (by simpa using e)
    exact ⟨v, by simpa using h1, h2⟩
theorem ss_augL (hv : PE X (.Name x p) (tVar i)) (hi : EE X W ie fi) (he : EE X W e fe) (hu : X.A.units + 1 < cLine)
    (ha : ∀ ov iv new, augStore ie ov iv new = (do holding [new, ov, iv] (setItem ov iv new); release [new, ov, iv] []; pure .next)) : SS X W kp (.AugAssign (.Subscript (.Name x p) ie tpos) .Add e pos) (sAugL i fi fe) :=
  PSimp (ps_augS hv (to_d hi) pg_list (to_d he) ip_add (set_all hu) ha) fun D σ H ⟨ρ, G, fp, c, q⟩ => by
    unfold sAugL at q
    split at q
    · next l hl =>
      obtain ⟨v, f1, pre, post, h1, h2, h3⟩ := c.rep.at hl
      cases h2 with
      | @node a ho t xs l' f' hH hho hs =>
        have hho : ho = .lst xs := hho
        subst hho
        refine ⟨.ref a, h1, ?_⟩
        refine ⟨ρ, G, fp, c, ?_⟩
        cases zi : dE fi ρ with
        | bad => rw [zi] at q; exact q
        | exc cc fs =>
          rw [zi] at q
          exact fun cls d G' H' m gr eh x ef => q cls d σ G' H' fp m (Stp.of gr eh) (c.grow gr eh x) Keep.refl ef
        | ok d =>
          rw [zi] at q
          simp only [Rs.thn_ok] at q
          intro iv G1 H1 g0 g1
          have c1 := g1.conf c
          cases d with
          | int k =>
            simp only at q
            split at q
            · next hk =>
              split at q
              · next xx hx =>
                have riv : IsD X.K G1 iv (.int k) := g1.rep.2
                have eiv : iv = .int k := by cases riv; rfl
                obtain ⟨v0, e1, e2⟩ := reps_at hs hx
                have ev0 : v0 = .int xx := by cases e2; rfl
                subst ev0
                have hH1 : H1 a = some (.lst xs) := g1.eh _ _ hH
                refine ⟨a, xs, k, .int xx, rfl, eiv, .inl (.inl hH1), hk.1, (have := hk.2; by omega), e1, ?_⟩
                refine ⟨ρ, G1, fp, c1, ?_⟩
                cases ze : dE fe ρ with
                | bad => rw [ze] at q; exact q
                | exc cc fs =>
                  rw [ze] at q
                  exact fun cls d G' H' m gr eh x ef => q cls d σ G' H' fp m ((Stp.of g1.gr g1.eh).trans (Stp.of gr eh)) (c1.grow gr eh x) Keep.refl ef
                | ok d2 =>
                  rw [ze] at q
                  simp only [Rs.thn_ok] at q
                  cases d2 with
                  | int y =>
                    simp only at q
                    intro yv G2 H2 g0' g2
                    have ryv : IsD X.K G2 yv (.int y) := g2.rep.2
                    have eyv : yv = .int y := by cases ryv; rfl
                    refine ⟨xx, y, rfl, eyv, ?_⟩
                    have c2 := g2.conf c1
                    have st : Stp G H ([] ++ fp) G2 H2 ([] ++ fp) := (Stp.of g1.gr g1.eh).trans (Stp.of g2.gr g2.eh)
                    have ra : Reps X.K G2 H2 [iv, .int (xx + y)] [.dat (.int k), .dat (.int (xx + y))] [] := by
                      have z := Reps.cons (K := X.K) (G := G2) (H := H2) (.dat (show IsD X.K G2 iv (.int k) by rw [eiv]; exact .int k)) (Reps.cons (.dat (.int (xx + y))) .nil)
                      simpa using z
                    have qq : PostX X.K X.mg W (muRes muSet2 i [] [.dat (.int k), .dat (.int (xx + y))] ρ) σ G H ([] ++ fp) (fun _ H' => D.nx σ H') := by
                      cases zm : muRes muSet2 i [] [.dat (.int k), .dat (.int (xx + y))] ρ with
                      | bad => rw [zm] at q; exact q
                      | exc cc fs ρ' =>
                        unfold muRes at zm
                        split at zm
                        · split at zm <;> cases zm
                        · cases zm
                      | ok oo ρ' =>
                        rw [zm] at q
                        intro v' G' H' f' fp' gg
                        exact q σ G' H' fp' (gg.stp.sub fun a h => List.mem_append_right _ h) gg.conf Keep.refl
                    obtain ⟨i', v', e3, q5⟩ := mu_go (r := rOfSet rSetA) (i := i) (p := []) (vs := [iv, .int (xx + y)]) (v0 := .ref a) (w := .ref a) set_M2 st c2 h1 rfl ra (by simpa using c2.nd) (fun _ z => by cases z) qq
                    cases e3
                    exact q5
                  | _ => exact q.elim
              · exact q.elim
            · exact q.elim
          | _ => exact q.elim
    · exact q.elim
end
end FL
namespace FL
open PySem L2 PySem.Spec PyProof.Rows
section
variable {X : Cx} {pins : List (Addr × Obj)} {σ : L2.St} {H : Hp} {s : Shared} {a b : Addr} {r : Value} {d : V} {k : List Key} {A : Around} {E : Value → Shared → Prop}
theorem d_setdT {kvs : List (List Key × V)} {Q : Value → Shared → Prop} (hu : A.units + 1 < cLine) (I : Inv X pins σ H s) (e : H a = some (.dT kvs)) (eb : H b = some (.tup (k.map kV))) (rd : RelV d r) (hl : kvs.length < sizeLine)
    (h1 : ∀ v, valV kvs k = some v → ∀ (w' : Value) (s' : Shared), Inv X pins σ H s' → RelV v w' → Q w' s') (h2 : valV kvs k = none → ∀ (s' : Shared), Inv X pins σ (upd H a (.dT (putK kvs k d))) s' → Q r s') :
    wpAny (model X.prog X.w) A (call (.builtin "dict.setdefault") [.ref a, .ref b, r]) Q E s := by
  obtain ⟨z, hd, xs, rel, dd⟩ := dt_of I.hok e
  have hz : xs.length ≤ sizeLine := by rw [← Paired.length rel]; exact z
  refine call_setdefault_heap (hsz := hz) (tupleKind_room_in1 hu) (key_of I.hok eb) hd dd (fun p hp => ?_) fun hn h' dd' hs => ?_
  · have q := rel.val k
    rw [hp] at q
    cases q0 : valV kvs k with
    | none =>
      rw [q0] at q
      exact (show False from q).elim
    | some v0 =>
      rw [q0] at q
      exact h1 v0 q0 _ _ (I.tok _) q
  · have q := rel.val k
    rw [hn] at q
    cases q0 : valV kvs k with
    | some v0 =>
      rw [q0] at q
      exact (show False from q).elim
    | none =>
      have hl2 : (putK kvs k d).length ≤ sizeLine := by
        have := length_putK kvs k d
        omega
      obtain ⟨q, es, ep, hq, g2, g3, g4, _, g5⟩ := dd'
      refine h2 q0 _ (d_write I (by rw [e]; exact True.intro) hs ⟨q, hq⟩ ⟨hl2, hd, _, (rel.put k eb rd).keeps fun c ys ec => ?_, q, es, ep, hq, g2, g3, g4, g5⟩)
      rw [upd_ne (ne_of ec e (fun z => nomatch z))]
      exact ec
end
def tSetdT (td ty tx : TE) : TE := fun σ H Q => td σ H fun x H1 => ∃ a, x = .ref a ∧ L2.IsD H1 a ∧ ty σ H1 fun y H2 => tx σ H2 fun z H3 => ∃ (kvs : List (List Key × V)) (k : List Key) (b : Addr), H3 a = some (.dT kvs) ∧ y = .ref b ∧ H3 b = some (.tup (k.map kV)) ∧ kvs.length < sizeLine ∧
  (∀ v, valV kvs k = some v → Q v H3) ∧ (valV kvs k = none → Q z (upd H3 a (.dT (putK kvs k z))))
theorem pe_setdT {X : Cx} {o e f : Expr} {td ty tx : TE} {apos cpos : Pos} (hu : X.A.units + 4 < cLine) (ho : PE X o td) (he : PE X e ty) (hf : PE X f tx) (m : M2 X o "setdefault" apos e f cpos) : PE X (.Call (.Attribute o "setdefault" apos) [e, f] [] cpos) (tSetdT td ty tx) := by
  refine ⟨fun pins s σ H Q I h => ?_⟩
  refine wpAny_Call_method m.base m.few m.line PySem.F.plainAttrs_dict PySem.F.slot_dict_setdefault PySem.F.type_dict_setdefault (thn (ho.run pins s σ H _ I h) fun u s1 ⟨x, H1, I1, rx, a, ex, d, q1⟩ => ?_)
  subst ex
  obtain rfl : u = Value.ref a := rx
  obtain ⟨t1, t2, _⟩ := isD_at I1 d
  refine ⟨t1, t2, ?_⟩
  rw [m.trees]
  refine Calls.callWith_builtin rfl (Calls.evalArgs_plain (Calls.spliced_cons (thn (he.run pins s1 σ H1 _ I1 q1) fun iv s2 ⟨y, H2, I2, ry, q2⟩ =>
    Calls.spliced_cons (thn (hf.run pins s2 σ H2 _ I2 q2) fun fv s3 ⟨z, H3, I3, rz, kvs, k, b, ea, ey, eb, hl, q3, q4⟩ => Calls.spliced_nil ?_))))
  subst ey
  obtain rfl : iv = Value.ref b := ry
  exact d_setdT (by omega) I3 ea eb rz hl (fun v hv w' s4 I4 rw' => ⟨v, _, I4, rw', q3 v hv⟩) fun hn s4 I4 => ⟨z, _, I4, rz, q4 hn⟩
end FL
namespace FL
open PySem L2
noncomputable def sSetd (i : Nat) (fk fi fe : FE) : FS := fun ρ => (dE fe ρ).thn ρ fun x => fun ρ => match ρ[i]? with
  | some (some (.node (.dcT ks) l)) => (dE fk ρ).thn ρ fun y => fun ρ => (match y with
    | .tup yl => (match keysD yl with
      | some kk => if l.length < sizeLine ∧ ks.length = l.length ∧ ks.Nodup then (match ks.findIdx? fun z => decide (z = kk) with
        | some j => (dE fi ρ).thn ρ fun di => fun ρ => (muRes muSet2 i [j] [.dat di, .dat x] ρ).thn fun _ => sNx
        | none => (muRes muSet2 i [] [.dat (.tup yl), .node (.dct []) []] ρ).thn fun _ => fun ρ1 => (dE fi ρ1).thn ρ1 fun di => fun ρ1 => (muRes muSet2 i [ks.length] [.dat di, .dat x] ρ1).thn fun _ => sNx) else .bad
      | none => .bad)
    | _ => .bad)
  | _ => .bad
section
variable {X : Cx} {W : WX} {kp : List Nat} {x : Str} {i : Nat} {e ie ke : Expr} {fi fe fk : FE} {pd ap cp dp p2 pos : Pos}
theorem kV_inj : ∀ {a b : List Key}, a.map kV = b.map kV → a = b
  | [], [], _ => rfl
  | [], _ :: _, h => by cases h
  | _ :: _, [], h => by cases h
  | x :: a, y :: b, h => by
    rw [List.map_cons, List.map_cons, List.cons.injEq] at h
    have e : x = y := by
      have h1 := h.1
      cases x <;> cases y <;> unfold kV at h1 <;> first | (cases h1; done) | (cases h1; rfl)
    rw [e, kV_inj h.2]
theorem ss_setd (hd : PE X (.Name x pd) (tVar i)) (hk : EE X W ke fk) (hi : EE X W ie fi) (he : EE X W e fe) (hu : X.A.units + 4 < cLine) (m : M2 X (.Name x pd) "setdefault" ap ke (.Dict [] [] dp) cp)
    (ha : ∀ v, assign (.Subscript (.Call (.Attribute (.Name x pd) "setdefault" ap) [ke, .Dict [] [] dp] [] cp) ie p2) X.env v = (do
      let ov ← holding [v] (eval (.Call (.Attribute (.Name x pd) "setdefault" ap) [ke, .Dict [] [] dp] [] cp) X.env)
      let iv ← holding [v, ov] (eval ie X.env)
      standAt p2
      holding [v, ov, iv] (setItem ov iv v)
      release [v, ov, iv] []))
    (hsw : swapsWithSole [.Subscript (.Call (.Attribute (.Name x pd) "setdefault" ap) [ke, .Dict [] [] dp] [] cp) ie p2] e pos.line X.env = pure false) (hw : swappedStores [.Subscript (.Call (.Attribute (.Name x pd) "setdefault" ap) [ke, .Dict [] [] dp] [] cp) ie p2] e X.env = pure none)
    (h1 : (assignEach [.Subscript (.Call (.Attribute (.Name x pd) "setdefault" ap) [ke, .Dict [] [] dp] [] cp) ie p2] X.env).map (·.2) = [assign (.Subscript (.Call (.Attribute (.Name x pd) "setdefault" ap) [ke, .Dict [] [] dp] [] cp) ie p2) X.env] := by rfl) :
    SS X W kp (.Assign [.Subscript (.Call (.Attribute (.Name x pd) "setdefault" ap) [ke, .Dict [] [] dp] [] cp) ie p2] e pos) (sSetd i fk fi fe) :=
  PSimp (ps_asg (to_d he) (pg_sub (pe_setdT hu hd (to_d hk) pe_dnewK m) (to_d hi) (set_all (by omega)) ha) hsw hw h1) fun D σ H ⟨ρ, G, fp, c, q⟩ => by
    unfold sSetd at q
    refine ⟨ρ, G, fp, c, ?_⟩
    cases ze : dE fe ρ with
    | bad => rw [ze] at q; exact q
    | exc cc fs =>
      rw [ze] at q
      exact fun cls d G' H' m gr eh x ef => q cls d σ G' H' fp m (Stp.of gr eh) (c.grow gr eh x) Keep.refl ef
    | ok xd =>
      rw [ze] at q
      simp only [Rs.thn_ok] at q
      intro xv G1 H1 f1 g1
      have rx : IsD X.K G1 xv xd := g1.rep.2
      have c1 := g1.conf c
      split at q
      · next ks l hl =>
        obtain ⟨v, ff, pre, post, hσ, h2, h3⟩ := c1.rep.at hl
        cases h2 with
        | @node a ho t xs l' f' hH hho hs =>
          obtain ⟨hlen, hho⟩ := (show ks.length = xs.length ∧ ho = .dT (ks.zip xs) from hho)
          subst hho
          refine ⟨.ref a, hσ, a, rfl, .inr ⟨_, .inl hH⟩, ?_⟩
          refine ⟨ρ, G1, fp, c1, ?_⟩
          cases zk : dE fk ρ with
          | bad => rw [zk] at q; exact q
          | exc cc fs =>
            rw [zk] at q
            exact fun cls d G' H' m gr eh x ef => q cls d σ G' H' fp m ((Stp.of g1.gr g1.eh).trans (Stp.of gr eh)) (c1.grow gr eh x) Keep.refl ef
          | ok y =>
            rw [zk] at q
            simp only [Rs.thn_ok] at q
            intro yv G2 H2 f2 g2
            have c2 := g2.conf c1
            have ry : IsD X.K G2 yv y := g2.rep.2
            split at q
            · next yl =>
              split at q
              · next kk hkk =>
                split at q
                · next hc =>
                  obtain ⟨k1, k2, k3⟩ := hc
                  cases ry with
                  | @tup b ys _ hb hys =>
                    have hb2 : H2 b = some (.tup (kk.map kV)) := by
                      rw [keysD_v hys hkk] at hb
                      exact c2.ex _ _ hb
                    intro p hp
                    have hH2 : H2 a = some (.dT (ks.zip xs)) := g2.eh _ _ hH
                    have hH3 : (upd H2 p (.dK [])) a = some (.dT (ks.zip xs)) := by rw [upd_ne (ne_of_none hH2 hp)]; exact hH2
                    have hb3 : (upd H2 p (.dK [])) b = some (.tup (kk.map kV)) := by rw [upd_ne (ne_of_none hb2 hp)]; exact hb2
                    have gn : Gr G2 H2 (upd G2 p (.dK [])) := Gr.new hp c2.ex
                    have c3 : Conf X.K G2 (upd H2 p (.dK [])) σ ρ fp := c2.grow Gr.refl (Ex.new hp) (c2.ex.trans (Ex.new hp))
                    have st3 : Stp G H fp G2 (upd H2 p (.dK [])) fp := ((Stp.of g1.gr g1.eh).trans (Stp.of g2.gr g2.eh)).trans (Stp.of Gr.refl (Ex.new hp))
                    refine ⟨ks.zip xs, kk, b, hH3, rfl, hb3, by rw [List.length_zip]; have := hs.length; omega, fun v0 hv0 => ?_, fun hn => ?_⟩
                    · cases zj : ks.findIdx? fun z => decide (z = kk) with
                      | none => rw [zip_none hlen zj] at hv0; cases hv0
                      | some j =>
                        rw [zj] at q
                        simp only at q
                        refine ⟨ρ, G2, fp, c3, ?_⟩
                        cases zi : dE fi ρ with
                        | bad => rw [zi] at q; exact q
                        | exc cc fs =>
                          rw [zi] at q
                          exact fun cls d G' H' m gr eh x ef => q cls d σ G' H' fp m (st3.trans (Stp.of gr eh)) (c3.grow gr eh x) Keep.refl ef
                        | ok di =>
                          rw [zi] at q
                          simp only [Rs.thn_ok] at q
                          intro iv G4 H4 f4 g4
                          have c4 := g4.conf c3
                          have riv : IsD X.K G4 iv di := g4.rep.2
                          have rx4 : IsD X.K G4 xv xd := rx.mono (g2.gr.ex.trans g4.gr.ex)
                          have st4 : Stp G H ([] ++ fp) G4 H4 ([] ++ fp) := st3.trans (Stp.of g4.gr g4.eh)
                          have ra : Reps X.K G4 H4 [iv, xv] [.dat di, .dat xd] [] := by
                            have z := Reps.cons (K := X.K) (G := G4) (H := H4) (.dat riv) (Reps.cons (.dat rx4) .nil)
                            simpa using z
                          have qq : PostX X.K X.mg W (muRes muSet2 i [j] [.dat di, .dat xd] ρ) σ G H ([] ++ fp) (fun _ H' => D.nx σ H') := by
                            cases zm : muRes muSet2 i [j] [.dat di, .dat xd] ρ with
                            | bad => rw [zm] at q; exact q
                            | exc cc fs ρ' =>
                              unfold muRes at zm
                              split at zm
                              · split at zm <;> cases zm
                              · cases zm
                            | ok oo ρ' =>
                              rw [zm] at q
                              intro v' G' H' f' fp' gg
                              exact q σ G' H' fp' (gg.stp.sub fun a h => List.mem_append_right _ h) gg.conf Keep.refl
                          have hj : j < xs.length := by
                            obtain ⟨hlt, _⟩ := List.findIdx?_eq_some_iff_findIdx_eq.mp zj
                            omega
                          have hxj : xs[j]? = some v0 := by
                            have z := zip_val (v := xs[j]) hlen zj (List.getElem?_eq_getElem hj)
                            rw [z] at hv0
                            cases hv0
                            exact List.getElem?_eq_getElem hj
                          have hat : At H4 (.ref a) [j] v0 := ⟨a, _, v0, rfl, g4.eh _ _ hH3, by show ((ks.zip xs).map (·.2))[j]? = _; rw [zip_snd hlen]; exact hxj, rfl⟩
                          obtain ⟨i', v', e3, q5⟩ := mu_go (r := rOfSet rSetA) (i := i) (p := [j]) (vs := [iv, xv]) (v0 := .ref a) (w := v0) set_M2 st4 c4 hσ hat ra (by simpa using c4.nd) (fun _ z => by cases z) qq
                          cases e3
                          exact q5
                    · have zj : (ks.findIdx? fun z => decide (z = kk)) = none := by
                        cases zj : ks.findIdx? fun z => decide (z = kk) with
                        | none => rfl
                        | some j =>
                          obtain ⟨hlt, _⟩ := List.findIdx?_eq_some_iff_findIdx_eq.mp zj
                          have hj : j < xs.length := by omega
                          rw [zip_val (v := xs[j]) hlen zj (List.getElem?_eq_getElem hj)] at hn
                          cases hn
                      rw [zj] at q
                      simp only at q
                      have hput : putK (ks.zip xs) kk (.ref p) = (ks ++ [kk]).zip (xs ++ [.ref p]) := by
                        rw [putK_zip hlen k3, zj]
                      have nfp : p ∉ fp := fun hm => by
                        obtain ⟨u, hu, _⟩ := c2.rep.live p hm
                        rw [hp] at hu; cases hu
                      have s0 : Stp G2 H2 fp G2 (upd H2 p (.dK [])) ([p] ++ fp) := ⟨Ex.refl _, fun a u h _ => Ex.new hp _ _ h, fun a u h => ⟨u, Ex.new hp _ _ h⟩, fun a ha => by
                        rcases List.mem_append.mp ha with ha | ha
                        · rw [List.mem_singleton.mp ha]; exact .inr hp
                        · exact .inl ha, fun a u h _ _ n => n⟩
                      have ra : Reps X.K G2 (upd H2 p (.dK [])) [.ref b, .ref p] [.dat (.tup yl), .node (.dct []) []] [p] := by
                        have z := Reps.cons (K := X.K) (G := G2) (H := upd H2 p (.dK [])) (.dat (.tup hb hys)) (Reps.cons (.node (t := .dct []) (xs := []) upd_same ⟨rfl, rfl⟩ .nil) .nil)
                        simpa using z
                      have qq : PostX X.K X.mg W (muRes muSet2 i [] [.dat (.tup yl), .node (.dct []) []] ρ) σ G2 H2 fp (fun _ H' => H' = upd (upd H2 p (.dK [])) a (.dT (putK (ks.zip xs) kk (.ref p))) → tG X.K X.mg W (RD X.K) (dE fi) σ H' fun idx H5 => rSetA (.ref p) idx xv H5 fun H6 => D.nx σ H6) := by
                        cases zm : muRes muSet2 i [] [.dat (.tup yl), .node (.dct []) []] ρ with
                        | bad => rw [zm] at q; exact q
                        | exc cc fs ρ' =>
                          unfold muRes at zm
                          split at zm
                          · split at zm <;> cases zm
                          · cases zm
                        | ok oo ρ1 =>
                          rw [zm] at q
                          simp only [RX.thn_ok] at q
                          intro v' G' H' f' fp' gg hH'
                          have c5 := gg.conf
                          have st5 : Stp G H fp G' H' fp' := ((Stp.of g1.gr g1.eh).trans (Stp.of g2.gr g2.eh)).trans (gg.stp.sub fun a h => List.mem_append_right _ h)
                          refine ⟨ρ1, G', fp', c5, ?_⟩
                          cases zi : dE fi ρ1 with
                          | bad => rw [zi] at q; exact q
                          | exc cc fs =>
                            rw [zi] at q
                            exact fun cls d G' H' m gr eh x ef => q cls d σ G' H' fp' m (st5.trans (Stp.of gr eh)) (c5.grow gr eh x) Keep.refl ef
                          | ok di =>
                            rw [zi] at q
                            simp only [Rs.thn_ok] at q
                            intro iv G6 H6 f6 g6
                            have c6 := g6.conf c5
                            have riv : IsD X.K G6 iv di := g6.rep.2
                            have rx6 : IsD X.K G6 xv xd := rx.mono ((g2.gr.ex.trans gg.stp.eg).trans g6.gr.ex)
                            have st6 : Stp G H ([] ++ fp) G6 H6 ([] ++ fp') := st5.trans (Stp.of g6.gr g6.eh)
                            have ra2 : Reps X.K G6 H6 [iv, xv] [.dat di, .dat xd] [] := by
                              have z := Reps.cons (K := X.K) (G := G6) (H := H6) (.dat riv) (Reps.cons (.dat rx6) .nil)
                              simpa using z
                            have qq2 : PostX X.K X.mg W (muRes muSet2 i [ks.length] [.dat di, .dat xd] ρ1) σ G H ([] ++ fp) (fun _ H' => D.nx σ H') := by
                              cases zm2 : muRes muSet2 i [ks.length] [.dat di, .dat xd] ρ1 with
                              | bad => rw [zm2] at q; exact q
                              | exc cc fs ρ' =>
                                unfold muRes at zm2
                                split at zm2
                                · split at zm2 <;> cases zm2
                                · cases zm2
                              | ok oo ρ' =>
                                rw [zm2] at q
                                intro v' G' H' f' fp' gg
                                exact q σ G' H' fp' (gg.stp.sub fun a h => List.mem_append_right _ h) gg.conf Keep.refl
                            have hH6 : H6 a = some (.dT ((ks ++ [kk]).zip (xs ++ [.ref p]))) := by
                              refine g6.eh _ _ ?_
                              rw [hH', upd_same, hput]
                            have hat : At H6 (.ref a) [ks.length] (.ref p) := ⟨a, _, .ref p, rfl, hH6, by
                              show (((ks ++ [kk]).zip (xs ++ [.ref p])).map (·.2))[ks.length]? = _
                              rw [zip_snd (by simp [hlen]), hlen]
                              simp, rfl⟩
                            obtain ⟨i', v', e3, q5⟩ := mu_go (r := rOfSet rSetA) (i := i) (p := [ks.length]) (vs := [iv, xv]) (v0 := .ref a) (w := .ref p) set_M2 st6 c6 hσ hat ra2 (by simpa using c6.nd) (fun _ z => by cases z) qq2
                            cases e3
                            exact q5
                      obtain ⟨i', v', e3, q5⟩ := mu_go (r := rOfSet rSetA) (i := i) (p := []) (vs := [.ref b, .ref p]) (v0 := .ref a) (w := .ref a) set_M2 s0 c3 hσ rfl ra (by
                        rw [List.singleton_append, List.nodup_cons]
                        exact ⟨nfp, c3.nd⟩) (fun b' hb' => by
                        rw [List.mem_singleton.mp hb']
                        exact L2.Same.free c2.ex hp) qq
                      cases e3
                      rcases q5 with q5 | q5
                      · obtain ⟨a2, xs2, k', j', e4, e5, _⟩ := q5
                        cases e5
                      · obtain ⟨a2, H', e4, dp2, q6⟩ := q5
                        cases e4
                        rcases dp2 with ⟨kvs, k, e5, _⟩ | ⟨kvs, k, b2, e5, e6, e7, e8, e9⟩
                        · rw [hH3] at e5; cases e5
                        · cases e6
                          rw [hH3] at e5
                          cases e5
                          rw [hb3] at e7
                          have ek : kk = k := kV_inj (by simpa using e7)
                          subst ek
                          have := q6 e9
                          rw [e9] at this
                          exact this
                · exact q.elim
              · exact q.elim
            · exact q.elim
      · exact q.elim
end
end FL
namespace FL
open PySem L2

inductive Gk where
  | no
  | blt
  | cst (d : D)
  | fn (n : Nat) (F : List O → RF)
  | exc
  | excF (ns : List Str)
structure CC where
  N : List Str
  sc : Scope
  /-- may be stored to -/
  st : Str → Bool
  own : List Str
  kp : List Nat
  calm : Bool
  glb : Str → Gk
  exn : Option (Addr × Option Addr × Str)
  /-- is a caught c of the class x, by an except clause; by isinstance -/
  sub : Str → Str → Option Bool
  isn : Str → Str → Option Bool
  /-- names whose dicts have tuples as keys; what a def changes -/
  dT : List Str := []
  kpf : Str → List Nat := fun _ => []
def GkOk (X : Cx) (x : Str) : Gk → Prop
  | .no => True
  | .blt => X.mg x = none
  | .cst d => ∃ v u, X.mg x = some u ∧ RelV v u ∧ ∀ G, IsD X.K G v d
  | .fn n F => ∃ k f fd ps, FnOk X.prog X.w X.K X.mg X.base (L2.CX X.prog X.w) k f fd ps (spF X.K X.mg n F) ∧ (X.calm = true → Room k X.A) ∧ X.mg x = some (.ref f) ∧ PySem.W.keepIn X.K (.ref f) = true ∧ Binds X.K fd ps []
  | .exc => ∃ C, X.mg x = some (.ref C) ∧ PySem.W.excIn X.K C He.veBase "ValueError.__new__" = true ∧ PySem.W.keepIn X.K (.ref C) = true ∧ Raises X (.ref C)
  | .excF ns => ∃ C k fI fd ps, OexC X.K C ∧ (∀ f ∈ ns, PySem.W.findIn X.K (.ref C) f = some none) ∧ PySem.W.findIn X.K (.ref C) "__init__" = some (some (.ref fI)) ∧ PySem.W.typeIn X.K (.ref fI) = some (.type "function") ∧
    FnOk X.prog X.w X.K X.mg X.base (L2.CX X.prog X.w) k fI fd ps (spInit X.K C ns) ∧ (X.calm = true → Room (k + 1) X.A) ∧ Binds X.K fd ps [] ∧ X.mg x = some (.ref C)
inductive ClsN (X : Cx) (x : Str) : V → Value → Prop where
  | own (C : Addr) (h : X.mg x = some (.ref C)) : ClsN X x (.ref C) (.ref C)
  | blt (T : String) (h : X.mg x = none) (hb : bootBuiltins x = some (.type T)) (hn : x ≠ "__name__") : ClsN X x (.ty T) (.type T)
structure Fits (C : CC) (X : Cx) : Prop where
  N : X.N = C.N
  sc : X.env.scope = C.sc
  kind : X.env.scope.kind = .function
  nd : X.N.Nodup
  calm : C.calm = true → X.calm = true
  un : X.A.units + 66 < cLine
  fn : ∀ x, C.st x = true → Loc X.env.scope x ∧ (X.fn x = true ∨ X.env.scope.names.lookup x = some .local)
  glb : ∀ x, GkOk X x (C.glb x)
  exn : ∀ a d c, C.exn = some (a, d, c) → ∃ X0 oe pn cls, X = Cx.suite X0 a ((a, oe) :: pn) ∧ Zc cls d oe ∧ (∃ vs, oe.data = .fields vs) ∧ X0.mg c = some cls
  isn : ∀ c x b, C.isn c x = some b → ∃ C1 cv cu, X.mg c = some (.ref C1) ∧ ExcC X.K C1 ∧ ClsN X x cv cu ∧ PySem.W.kitOne X.K (.ref C1) cu = some b
  sub : ∀ c x b, C.sub c x = some b → ∃ cls cv cu, X.mg c = some cls ∧ ClsN X x cv cu ∧ PySem.W.exmOne X.K cls cu = some b

def notStar : Expr → Bool
  | .Starred _ _ => false
  | _ => true
def notSlice : Expr → Bool
  | .Slice _ _ _ _ => false
  | _ => true
def notSet : Expr → Bool
  | .Set _ _ _ => false
  | _ => true
def notComp : Expr → Bool
  | .ListComp _ _ _ _ => false
  | .SetComp _ _ _ _ => false
  | .DictComp _ _ _ _ _ => false
  | _ => true
def notSup : Expr → Bool
  | .Call (.Name _ _) [] [] _ => false
  | _ => true
def plainT : Expr → Bool
  | .Call _ _ _ _ => true
  | .Name _ _ => true
  | .Subscript _ _ _ => true
  | .Constant _ _ _ => true
  | .Attribute _ _ _ => true
  | _ => false
def notTup : Expr → Bool
  | .Tuple _ _ _ => false
  | _ => true
theorem star_cons {e : Expr} {es : List Expr} {env : PySem.Env} (h : notStar e = true) : starEach (e :: es) env = (false, eval e env) :: starEach es env := by
  cases e <;> first | rfl | cases h
theorem star_plain : ∀ {es : List Expr} {env : PySem.Env} {pos : Pos}, es.all notStar = true → (backTo pos (starEach es env)).any (·.1) = false
  | [], _, _, _ => rfl
  | e :: es, env, pos, h => by
    rw [List.all_cons, Bool.and_eq_true] at h
    rw [star_cons h.1]
    have := star_plain (es := es) (env := env) (pos := pos) h.2
    simp only [backTo, List.map_cons, List.any_cons, Bool.false_or] at this ⊢
    exact this
theorem star_all : ∀ {es : List Expr} {env : PySem.Env} {pos : Pos}, es.all notStar = true → (backTo pos (starEach es env)).all (fun x => !x.1) = true
  | [], _, _, _ => rfl
  | e :: es, env, pos, h => by
    rw [List.all_cons, Bool.and_eq_true] at h
    rw [star_cons h.1]
    have := star_all (es := es) (env := env) (pos := pos) h.2
    simp only [backTo, List.map_cons, List.all_cons, Bool.not_false, Bool.true_and] at this ⊢
    exact this
theorem plain_ix {b : Expr} (h : notSlice b = true) : PlainIx b := by
  intro o i
  cases b <;> first | rfl | cases h
theorem set_fold {e : Expr} {env : PySem.Env} (h : notSet e = true) : ∀ x, foldedSetIterable e env x = pure x := by
  intro x
  cases e <;> first | rfl | cases h
theorem set_marks {op : CmpOp} {e : Expr} (h : notSet e = true) : behindInMarks op e = false := by
  cases e <;> first | rfl | cases h
theorem set_last {op op' : CmpOp} {b c : Expr} (h : notSet c = true) : lastMarks [op, op'] [b, c] = false := by
  show behindInMarks op' c = false
  exact set_marks h
theorem attr_base {o : Expr} {name : Str} {env : PySem.Env} {w : Sem Value} (h : notSup o = true) : attributeBase o name env w = w := by
  cases o with
  | Call f as kws pos =>
    cases f with
    | Name x p =>
      cases as with
      | nil =>
        cases kws with
        | nil => cases h
        | cons _ _ => rfl
      | cons _ _ => rfl
    | _ => rfl
  | _ => rfl
theorem no_swap {e : Expr} {t : Option Expr} {l : Nat} {env : PySem.Env} (h : notComp e = true) : swapsWith e t l env = pure false := by
  cases e <;> first | rfl | cases h
theorem no_stores {tg e : Expr} {env : PySem.Env} (h : notTup e = true ∨ notTup tg = true) (hl : notTup tg = true → ∀ es p, tg ≠ .List es p) : swappedStores [tg] e env = pure none := by
  rcases h with h | h
  · cases e <;> first | (cases tg <;> rfl) | cases h
  · have := hl h
    cases tg <;> first | rfl | exact absurd rfl (this _ _) | (cases h; done)
theorem plain_true {e : Expr} {env : PySem.Env} (h : plainT e = true) : ∀ whole, isTrue e env whole = (do let v ← whole; standAt e.pos; holding [v] (truthy v)) := by
  intro w
  cases e <;> first | rfl | cases h

def visB (sc : Scope) (x : Str) : Bool := match sc.names.lookup x with
  | some .local => true
  | some .cell => true
  | some .free => true
  | _ => false
def locB (sc : Scope) (x : Str) : Bool := match sc.names.lookup x with
  | some .local => true
  | some .cell => true
  | _ => false
def glB (sc : Scope) (x : Str) : Bool := match sc.names.lookup x with
  | some .globalImplicit => true
  | _ => false
def plainN (x : Str) : Bool := !(x == ("__debug__" : Str)) && !(x == ("__classdict__" : Str)) && !(x == ("__name__" : Str))
theorem visB_ok {sc : Scope} {x : Str} (h : visB sc x = true) : Vis sc x := by
  unfold visB at h
  split at h
  · next e => exact .inl e
  · next e => exact .inr (.inl e)
  · next e => exact .inr (.inr e)
  · cases h
theorem locB_ok {sc : Scope} {x : Str} (h : locB sc x = true) : Loc sc x := by
  unfold locB at h
  split at h
  · next e => exact .inl e
  · next e => exact .inr e
  · cases h
theorem glB_ok {X : Cx} {x : Str} (h : glB X.env.scope x = true) : Gl X x := by
  unfold glB at h
  split at h
  · next e => exact e
  · cases h
theorem plainN_ok {x : Str} (h : plainN x = true) : (x == ("__debug__" : Str)) = false ∧ (x == ("__classdict__" : Str)) = false ∧ x ≠ "__name__" := by
  unfold plainN at h
  simp only [Bool.and_eq_true, Bool.not_eq_true'] at h
  exact ⟨h.1.1, h.1.2, fun e => by rw [e] at h; simp at h⟩
def slotOf (N : List Str) (x : Str) : Option Nat := match N.idxOf? x with
  | some i => if N[i]? = some x then some i else none
  | none => none
theorem slotOf_ok {N : List Str} {x : Str} {i : Nat} (h : slotOf N x = some i) : N[i]? = some x := by
  unfold slotOf at h
  split at h
  · split at h
    · next e => cases h; exact e
    · cases h
  · cases h

noncomputable def opF : Operator → Option (D → D → Rs O)
  | .Add => some dAdd
  | .Sub => some dSub
  | .Mult => some dMul
  | .FloorDiv => some dDiv
  | .Mod => some dMod
  | .Pow => some dPow
  | _ => none
noncomputable def cmpF : CmpOp → Option (D → D → Rs O)
  | .Lt => some dLt
  | .LtE => some dLe
  | .Gt => some dGt
  | .GtE => some dGe
  | .Eq => some dEq
  | .NotEq => some dNe
  | .Is => some dIs
  | .IsNot => some dIsN
  | _ => none
theorem opF_ok {X : Cx} {op : Operator} {g : D → D → Rs O} (h : opF op = some g) : ∃ r, OpR X (binaryOp op) r ∧ OpF X.K r g := by
  cases op <;> simp only [opF, Option.some.injEq, reduceCtorEq] at h
  · subst h; exact ⟨_, op_addAll, add_F⟩
  · subst h; exact ⟨_, op_sub, sub_F⟩
  · subst h; exact ⟨_, op_mulAll, mul_F⟩
  · subst h; exact ⟨_, op_mod, mod_F⟩
  · subst h; exact ⟨_, op_pow, pow_F⟩
  · subst h; exact ⟨_, op_fdivW, div_F⟩
theorem cmpF_ok {X : Cx} {op : CmpOp} {g : D → D → Rs O} (hu : X.A.units + 66 < cLine) (h : cmpF op = some g) : ∃ r, OpR X (compareOp op) r ∧ OpF X.K r g := by
  cases op <;> simp only [cmpF, Option.some.injEq, reduceCtorEq] at h
  · subst h; exact ⟨_, op_eqD (by omega), eq_F⟩
  · subst h; exact ⟨_, op_neD (by omega), ne_F⟩
  · subst h; exact ⟨_, (op_ltAll (by omega)).or (op_ltG hu), lt_F⟩
  · subst h; exact ⟨_, op_le.or (op_leG hu), le_F⟩
  · subst h; exact ⟨_, op_gt.or (op_gtG hu), gt_F⟩
  · subst h; exact ⟨_, op_ge.or (op_geG hu), ge_F⟩
  · subst h; exact ⟨_, op_isNon, is_F⟩
  · subst h; exact ⟨_, op_notNon, isn_F⟩
noncomputable def bltF (calm : Bool) (x : Str) : Option (List D → Rs O) :=
  if x = "len" then some dLen else
  if x = "list" then some dList else
  if x = "tuple" then some dTuple else
  if x = "abs" then some dAbs else
  if x = "sorted" then some dSorted2 else
  if x = "int" then some dInt else
  if calm = false then none else
  if x = "sum" then some dSum2 else
  if x = "all" then some dAll else
  if x = "any" then some dAny else
  if x = "max" then some dMax2 else
  if x = "min" then some dMin2 else none
theorem bltF_ok {X : Cx} {W : WX} {x : Str} {g : List D → Rs O} {calm : Bool} {e : Expr} {es : List Expr} {f : FA} {p pos : Pos} (hu : X.A.units + 66 < cLine) (h : bltF calm x = some g) (hc : calm = true → X.calm = true) (hgl : Gl X x) (hm : X.mg x = none) (ha : ER X W (e :: es) f) (h1 : notStar e = true) (h2 : es.all notStar = true) (hp : plainN x = true) :
    EE X W (.Call (.Name x p) (e :: es) [] pos) (eFn g f) := by
  obtain ⟨k1, k2, k3⟩ := plainN_ok hp
  unfold bltF at h
  by_cases e1 : x = "len"
  · subst e1; rw [if_pos rfl] at h; cases h
    exact ee_callB call_lenAll len_F hgl hm PySem.boot_len ha k3 k1 (star_cons h1) (star_plain h2)
  rw [if_neg e1] at h
  by_cases e2 : x = "list"
  · subst e2; rw [if_pos rfl] at h; cases h
    exact ee_callTy call_listAll list_F hgl hm PyProof.Rows.boot_list ha k3 k1 (star_cons h1) (star_plain h2)
  rw [if_neg e2] at h
  by_cases e3 : x = "tuple"
  · subst e3; rw [if_pos rfl] at h; cases h
    exact ee_callTy call_tupleAll tuple_F hgl hm PyProof.Rows.boot_tuple ha k3 k1 (star_cons h1) (star_plain h2)
  rw [if_neg e3] at h
  by_cases e4 : x = "abs"
  · subst e4; rw [if_pos rfl] at h; cases h
    exact ee_callB call_absI abs_F hgl hm PyProof.Rows.boot_abs ha k3 k1 (star_cons h1) (star_plain h2)
  rw [if_neg e4] at h
  by_cases e4b : x = "sorted"
  · subst e4b; rw [if_pos rfl] at h; cases h
    exact ee_callB (cr_sort2 hu) sort_F2 hgl hm PyProof.Rows.boot_sorted ha k3 k1 (star_cons h1) (star_plain h2)
  rw [if_neg e4b] at h
  by_cases e4c : x = "int"
  · subst e4c; rw [if_pos rfl] at h; cases h
    exact ee_callTy call_intA int_F hgl hm PyProof.Rows.boot_int ha k3 k1 (star_cons h1) (star_plain h2)
  rw [if_neg e4c] at h
  by_cases ec : calm = false
  · rw [if_pos ec] at h; cases h
  rw [if_neg ec] at h
  have hc := hc (by simpa using ec)
  by_cases e5 : x = "sum"
  · subst e5; rw [if_pos rfl] at h; cases h
    exact ee_callB (cr_sumA hc) sum_F2 hgl hm PyProof.Rows.boot_sum ha k3 k1 (star_cons h1) (star_plain h2)
  rw [if_neg e5] at h
  by_cases e6 : x = "all"
  · subst e6; rw [if_pos rfl] at h; cases h
    exact ee_callB (cr_all hc) all_F hgl hm PyProof.Rows.boot_all ha k3 k1 (star_cons h1) (star_plain h2)
  rw [if_neg e6] at h
  by_cases e7 : x = "any"
  · subst e7; rw [if_pos rfl] at h; cases h
    exact ee_callB (cr_any hc) any_F hgl hm PyProof.Rows.boot_any ha k3 k1 (star_cons h1) (star_plain h2)
  rw [if_neg e7] at h
  by_cases e8 : x = "max"
  · subst e8; rw [if_pos rfl] at h; cases h
    exact ee_callB (cr_max2 hc hu) max_F2 hgl hm PyProof.Rows.boot_max ha k3 k1 (star_cons h1) (star_plain h2)
  rw [if_neg e8] at h
  by_cases e9 : x = "min"
  · subst e9; rw [if_pos rfl] at h; cases h
    exact ee_callB (cr_min2 hc hu) min_F2 hgl hm PyProof.Rows.boot_min ha k3 k1 (star_cons h1) (star_plain h2)
  rw [if_neg e9] at h
  cases h
end FL
namespace FL
open PySem L2
def toRets (kp : List Nat) (ρ : Env) : List Opd → Option (List O × Env)
  | [] => some ([], ρ)
  | o :: os => match toRet kp ρ o with
    | some (x, ρ1) => (match toRets kp ρ1 os with
      | some (xs, ρ2) => some (x :: xs, ρ2)
      | none => none)
    | none => none
def xPck (kp : List Nat) (fa : FOs) : FX := fun ρ => match fa ρ with
  | .ok os => (match toRets kp ρ os with
    | some (xs, ρ') => if xs.length ≤ sizeLine then .ok (.tmp (.pck xs)) ρ' else .bad
    | none => .bad)
  | .exc c fs => .exc c fs ρ
  | .bad => .bad
section
variable {K : PySem.W.Frag} {mg : Str → Option Value} {W : WX} {H : Hp} {σ : L2.St} {kp : List Nat}
theorem toRets_ok : ∀ {os : List Opd} {vs : List V} {f : List Addr} {G : Hp} {ρ ρ' : Env} {fp : List Addr} {xs : List O}, ROs K G H σ vs os f → Conf K G H σ ρ fp → (f ++ fp).Nodup → (∀ a ∈ f, G a = none) → toRets kp ρ os = some (xs, ρ') →
    ∃ G2 f2 fp2, Stp G H (f ++ fp) G2 H (f2 ++ fp2) ∧ Conf K G2 H σ ρ' fp2 ∧ Reps K G2 H vs xs f2 ∧ (f2 ++ fp2).Nodup ∧ ∀ b ∈ f2, G2 b = none
  | [], _, _, G, ρ, ρ', fp, xs, .nil, c, nd, gn, e => by
    unfold toRets at e
    cases e
    exact ⟨G, [], fp, Stp.refl, c, .nil, nd, fun _ z => by cases z⟩
  | o :: os, _, _, G, ρ, ρ', fp, xs, .cons (v := v) (f := f1) (vs := vs) (fs := f2) h t, c, nd, gn, e => by
    unfold toRets at e
    cases z1 : toRet kp ρ o with
    | none => rw [z1] at e; cases e
    | some q1 =>
      obtain ⟨x, ρ1⟩ := q1
      cases z2 : toRets kp ρ1 os with
      | none => simp only [z1, z2] at e; cases e
      | some q2 =>
        obtain ⟨xs', ρ2⟩ := q2
        simp only [z1, z2, Option.some.injEq, Prod.mk.injEq] at e
        obtain ⟨rfl, rfl⟩ := e
        have nd' := nd
        simp only [List.nodup_append, List.mem_append] at nd'
        have nd1 : (f1 ++ fp).Nodup := by
          simp only [List.nodup_append, List.mem_append]
          grind
        obtain ⟨G1, g1, fp1, s1, c1, r1, m1, k1⟩ := GotX.ret (G := G) (H := H) (fp := f1 ++ fp) (o := o) (v := v) (f := f1) (ρ' := ρ) (fp' := fp) ⟨Stp.refl, c, h, nd1, fun a ha => gn a (List.mem_append_left _ ha)⟩ z1
        have lv := ROs.live t
        have lr := fun a ha => Rep.live r1 a ha
        have n2 : ∀ a ∈ f2, a ∉ f1 ++ fp := fun a ha z => by
          simp only [List.mem_append] at z
          grind
        have n3 : ∀ a ∈ f2, a ∉ g1 ++ fp1 := fun a ha z => by
          obtain ⟨u, h1, h2⟩ := lv a ha
          rcases s1.sb a z with k | k
          · exact n2 a ha k
          · rw [h1] at k; cases k
        have gn1 : ∀ a ∈ f2, G1 a = none := fun a ha => by
          obtain ⟨u, h1, h2⟩ := lv a ha
          exact s1.og a u h1 (n2 a ha) h2 (gn a (List.mem_append_right _ ha))
        have nd2 : (f2 ++ fp1).Nodup := by
          have := c1.nd
          have n4 : ∀ a ∈ f2, a ∉ fp1 := fun a ha z => n3 a ha (List.mem_append_right _ z)
          simp only [List.nodup_append]
          grind
        obtain ⟨G2, g2, fp2, s2, c2, r2, m2, k2⟩ := toRets_ok (ros_up s1.eg t) c1 nd2 gn1 z2
        have m1' := m1
        simp only [List.nodup_append] at m1'
        -- what is given first stays apart
        have ap : ∀ a ∈ g1, a ∉ f2 ++ fp1 := fun a ha z => by
          rcases List.mem_append.mp z with z | z
          · exact n3 a z (List.mem_append_left _ ha)
          · exact m1'.2.2 a ha a z rfl
        have ap2 : ∀ a ∈ g1, a ∉ g2 ++ fp2 := fun a ha z => by
          obtain ⟨u, h1, h2⟩ := lr a ha
          rcases s2.sb a z with k | k
          · exact ap a ha k
          · rw [h1] at k; cases k
        refine ⟨G2, g1 ++ g2, fp2, ?_, c2, .cons (r1.mono s2.eg fun a _ u h => h) r2, ?_, fun b hb => ?_⟩
        · have e1 : Stp G H (f2 ++ (f1 ++ fp)) G1 H (f2 ++ (g1 ++ fp1)) := s1.left f2
          have e2 : Stp G1 H (g1 ++ (f2 ++ fp1)) G2 H (g1 ++ (g2 ++ fp2)) := s2.left g1
          have e3 : Stp G H (f2 ++ (f1 ++ fp)) G1 H (g1 ++ (f2 ++ fp1)) := e1.sub fun a ha => by
            simp only [List.mem_append] at ha ⊢
            grind
          refine ((e3.trans e2).sup fun a ha => ?_).sub fun a ha => ?_
          · simp only [List.mem_append] at ha ⊢
            grind
          · simp only [List.mem_append] at ha ⊢
            grind
        · rw [List.append_assoc]
          refine nd_join m1'.1 m2 ap2
        · rcases List.mem_append.mp hb with hb | hb
          · obtain ⟨u, h1, h2⟩ := lr b hb
            exact s2.og b u h1 (ap b hb) h2 (k1 b hb)
          · exact k2 b hb
theorem xpck_read {fa : FOs} {Q : V → Hp → Prop} {H : Hp} (h : tX K mg W (xPck kp fa) σ H Q) : tTup (tG K mg W (ROs K) fa) σ H Q := by
  obtain ⟨ρ, G, fp, c, q⟩ := h
  refine ⟨ρ, G, fp, c, ?_⟩
  unfold xPck at q
  cases z : fa ρ with
  | exc cc fs =>
    rw [z] at q
    exact fun cls d G' H' m gr eh x ef => q cls d G' H' fp m (Stp.of gr eh) (c.grow gr eh x) ef
  | bad => rw [z] at q; exact q
  | ok os =>
    rw [z] at q
    simp only at q
    intro vs G1 H1 f1 g1
    have c1 := g1.conf c
    have rr : ROs K G1 H1 σ vs os f1 := g1.rep
    cases z2 : toRets kp ρ os with
    | none => rw [z2] at q; exact q.elim
    | some r =>
      obtain ⟨xs, ρ'⟩ := r
      rw [z2] at q
      simp only at q
      have nd : (f1 ++ fp).Nodup := nd_join g1.nd c.nd fun x hx hy => by
        obtain ⟨u, h, _⟩ := c.rep.live x hy
        have := (g1.fr x hx).2
        rw [h] at this; cases this
      obtain ⟨G2, f2, fp2, s2, c2, r2, m2, k2⟩ := toRets_ok rr c1 nd (fun a ha => (g1.fr a ha).1) z2
      have hlen := r2.length
      split at q
      · next hz =>
        refine ⟨by omega, fun p n => ?_⟩
        have gp : G2 p = none := L2.Same.free c2.ex n
        have c3 : Conf K (upd G2 p (.tup vs)) (upd H1 p (.tup vs)) σ ρ' fp2 := c2.grow (Gr.new n c2.ex) (Ex.new n) (c2.ex.upd2 n)
        have st : Stp G H fp G2 H1 (f2 ++ fp2) := (g1.stp (fp := fp)).trans s2
        have lv := fun a ha => Reps.live r2 a ha
        have np : ∀ b ∈ f2, b ≠ p := fun b hb z => by
          obtain ⟨u, h, _⟩ := lv b hb
          rw [z, n] at h; cases h
        refine q (.ref p) (upd G2 p (.tup vs)) (upd H1 p (.tup vs)) f2 fp2 ⟨?_, c3, .pck upd_same (r2.mono (Ex.new gp) fun a _ u h => Ex.new n a u h), m2, fun b hb => by rw [upd_ne (np b hb)]; exact k2 b hb⟩
        exact st.trans (Stp.of (Gr.new n c2.ex) (Ex.new n))
      · exact q.elim
end
section
variable {X : Cx} {W : WX} {es : List Expr} {pos : Pos}
theorem xx_pck {x1 : Nat} {fa : FOs} (kp : List Nat) (h : EOs X W es fa) : XX X W (.Tuple es x1 pos) (xPck kp fa) := PEimp (pe_tup h) fun σ H Q q => xpck_read q
end
def eIxO (k : Int) (fa : FE) : FE := fun ρ => (fa ρ).bnd fun o => match o with
  | .tmp (.pck l) => (match (ixN l.length k).bind (l[·]?) with
    | some o => .ok (.tmp o)
    | none => .bad)
  | _ => .bad
theorem ee_ixO {X : Cx} {W : WX} {a : Expr} {fa : FE} {k : Int} {j : Nat} {p1 pos : Pos} (ha : EE X W a fa) : EE X W (.Subscript a (.Constant (.int k) j p1) pos) (eIxO k fa) := by
  refine PEimp (pe_ix ix_tup ha pe_int (fun _ _ => rfl)) fun σ H Q ⟨ρ, G, fp, c, q⟩ => ⟨ρ, G, fp, c, ?_⟩
  unfold eIxO at q
  cases e : fa ρ with
  | exc cc fs => rw [e] at q; exact q
  | bad => rw [e] at q; exact q
  | ok o =>
    rw [e] at q
    simp only [Rs.bnd_ok] at q
    intro v G1 H1 f g
    match o, g, q with
    | .plc _ _, _, q => exact q.elim
    | .tmp (.dat _), _, q => exact q.elim
    | .tmp (.node _ _), _, q => exact q.elim
    | .tmp (.pck l), g, q =>
      have r : Rep X.K G1 H1 v (.pck l) f := g.rep
      cases z : (ixN l.length k).bind (l[·]?) with
      | none => simp only [z] at q; exact q.elim
      | some o =>
        simp only [z] at q
        cases r with
        | @pck a xs _ _ h1 h3 =>
          cases zj : ixN l.length k with
          | none => rw [zj] at z; cases z
          | some j =>
            rw [zj] at z
            have z : l[j]? = some o := z
            obtain ⟨w, pre, f1, post, k1, k2, k3, _⟩ := h3.lens z
            have hn := g.nd
            rw [k2] at hn
            refine ⟨a, xs, k, w, rfl, rfl, SqT.of (g.x _ _ h1), ?_, q w G1 H1 f1 ⟨g.gr, g.eh, g.x, k3, ?_, fun b hb => g.fr b (by rw [k2]; simp [hb])⟩⟩
            · unfold L2.atI
              rw [h3.length, zj]
              exact k1
            · exact (List.nodup_append.mp (List.nodup_append.mp hn).1).2.1
def setAll : List Nat → List O → Env → Env
  | i :: is, o :: os, ρ => setAll is os (ρ.set i (some o))
  | _, _, ρ => ρ
def tGO (K : PySem.W.Frag) (kp : List Nat) (is : List Nat) : TGs := fun vs σ H Q => ∃ ρ G fp f os, Conf K G H σ ρ fp ∧ Reps K G H vs os f ∧ (f ++ fp).Nodup ∧ (∀ b ∈ f, G b = none) ∧ os.length = is.length ∧
  ∀ σ' fp', (∀ a ∈ fp', a ∈ f ++ fp) → Conf K G H σ' (setAll is os ρ) fp' → Keep kp σ σ' → Q σ' H
section
variable {X : Cx} {kp : List Nat} {e : Expr} {es : List Expr} {pos : Pos}
theorem go_nil : PGs X [] (tGO X.K kp []) := PGsimp pgs_nil fun vs σ H Q ⟨ρ, G, fp, f, os, c, r, nd, gn, hl, q⟩ => by
  cases os with
  | nil => cases r; exact ⟨rfl, q σ fp (fun _ h => by simpa using h) c Keep.refl⟩
  | cons _ _ => cases hl
theorem go_cons {i : Nat} {x : Str} {is : List Nat} {p : Pos} (hN : X.N.Nodup) (hi : X.N[i]? = some x) (hx : Loc X.env.scope x) (hk : i ∉ kp) (hf : X.fn x = true ∨ X.env.scope.names.lookup x = some .local) (h2 : PGs X es (tGO X.K kp is))
    (hs : (assignEach (.Name x p :: es) X.env).map (·.2) = assign (.Name x p) X.env :: (assignEach es X.env).map (·.2) := by rfl) : PGs X (.Name x p :: es) (tGO X.K kp (i :: is)) :=
  PGsimp (pgs_cons (pg_name hN hi hx hf) h2 hs) fun vs σ H Q ⟨ρ, G, fp, f, os, c, r, nd, gn, hl, q⟩ => by
    cases os with
    | nil => cases hl
    | cons o os =>
      cases r with
      | @cons v _ f1 vs _ f2 r1 r2 =>
        have nd' := nd
        simp only [List.nodup_append, List.mem_append] at nd'
        have nd1 : (f1 ++ fp).Nodup := by
          simp only [List.nodup_append, List.mem_append]
          grind
        obtain ⟨fp', s, c'⟩ := c.put (i := i) r1 nd1 (fun b hb => gn b (List.mem_append_left _ hb))
        have live := fun a ha => c'.rep.live a ha
        have sub : ∀ a ∈ fp', a ∈ f1 ++ fp := fun a ha => by
          rcases s.sb a ha with z | z
          · exact z
          · obtain ⟨u, hu, _⟩ := live a ha
            rw [z] at hu; cases hu
        refine ⟨v, vs, rfl, ρ.set i (some o), G, fp', f2, os, c', r2, nd_join (by grind) c'.nd fun x hx hy => ?_, fun b hb => gn b (List.mem_append_right _ hb), by simpa using hl, fun σ' fp2 s' c2 k2 => ?_⟩
        · have := sub x hy
          simp only [List.mem_append] at this
          grind
        · refine q σ' fp2 (fun a ha => ?_) c2 ((Keep.set hk).trans k2)
          have := s' a ha
          simp only [List.mem_append] at this ⊢
          rcases this with h | h
          · exact .inl (.inr h)
          · have := sub a h
            simp only [List.mem_append] at this
            grind
def tGP (K : PySem.W.Frag) (kp : List Nat) (is : List Nat) : TG := fun v σ H Q => ∃ ρ G fp f os, Conf K G H σ ρ fp ∧ Rep K G H v (.pck os) f ∧ (f ++ fp).Nodup ∧ (∀ b ∈ f, G b = none) ∧ os.length = is.length ∧
  ∀ σ' fp', (∀ a ∈ fp', a ∈ f ++ fp) → Conf K G H σ' (setAll is os ρ) fp' → Keep kp σ σ' → Q σ' H
theorem gp_tup {k : Nat} {is : List Nat} (hc : X.calm = true) (h : PGs X es (tGO X.K kp is)) (hn : (assignEach es X.env).length = is.length) (hst : (assignEach es X.env).findIdx? (·.1) = none) : PG X (.Tuple es k pos) (tGP X.K kp is) :=
  PGimp (pg_tup hc h hn hst) fun v σ H Q ⟨ρ, G, fp, f, os, c, r, nd, gn, hl, q⟩ => by
    cases r with
    | @pck a xs _ _ h1 h3 => exact ⟨a, xs, rfl, SqT.of (c.ex _ _ h1), by rw [h3.length]; exact hl, ρ, G, fp, f, os, c, h3, nd, gn, hl, q⟩
def sUnp (is : List Nat) (fx : FX) : FS := fun ρ => (fx ρ).thn fun o ρ' => match o with
  | .tmp (.pck os) => if os.length = is.length then .ok .nx (setAll is os ρ') else .bad
  | _ => .bad
theorem ss_unp {W : WX} {k : Nat} {is : List Nat} {fx : FX} {p : Pos} (he : XX X W e fx) (hg : PG X (.Tuple es k p) (tGP X.K kp is)) (hs : swapsWithSole [.Tuple es k p] e pos.line X.env = pure false) (hw : swappedStores [.Tuple es k p] e X.env = pure none)
    (h1 : (assignEach [.Tuple es k p] X.env).map (·.2) = [assign (.Tuple es k p) X.env]) : SS X W kp (.Assign [.Tuple es k p] e pos) (sUnp is fx) := PSimp (ps_asg he hg hs hw h1) fun D σ H ⟨ρ, G, fp, c, q⟩ =>
  exprS c q fun o ρ' v G1 H1 f fp1 _ g q1 => by
    match o, g, q1 with
    | .plc _ _, _, q => exact q.elim
    | .tmp (.dat _), _, q => exact q.elim
    | .tmp (.node _ _), _, q => exact q.elim
    | .tmp (.pck os), g, q1 =>
      simp only at q1
      by_cases hl : os.length = is.length
      · rw [if_pos hl] at q1
        exact ⟨ρ', G1, fp1, f, os, g.conf, g.rep, g.nd, g.fr, hl, fun σ' fp' s' c' k' => q1 σ' G1 H1 fp' (Stp.refl.sub s') c' k'⟩
      · rw [if_neg hl] at q1; exact q1.elim
end
end FL
namespace FL
open PySem L2 PyProof.Rows
section
variable {P : Program} {w : World} {A : Around} {E : Value → Shared → Prop} {s : Shared}
theorem called_of {T newId initId : String} {args : List Value} {Q Q₁ : Value → Shared → Prop} (ft : TypeCalled T newId initId) (hct : checkTypeCall T ⟨args, []⟩ = pure ())
    (hnew : codeAny (model P w) A.in1 (.call (.builtin newId) ⟨.type T :: args, []⟩) (wants Q₁ E) s)
    (hinit : ∀ obj s₁, Q₁ obj s₁ → s₁.TypeIs obj T ∧ codeAny (model P w) A.in1 (.call (.builtin initId) ⟨obj :: args, []⟩) (wants (fun r s₂ => r = .none ∧ Q obj s₂) E) s₁) :
    wpAny (model P w) A (call (.type T) args) Q E s := by
  have ⟨c, tl, hmro⟩ := ft.mro
  have a1 := ft.notType
  have a2 := ft.canCreate
  have a3 := ft.made
  have a4 := ft.sub
  have a5 := ft.init.lookup
  refine wpAny_call (codeAny_of_tree (wpAny_pure ⟨Code.quiet_builtin _ (by decide +kernel), codeAny_builtin F.entry_type_call ?_⟩))
  rw [Around.under_plain (weight_type_call_type T args []) rfl]
  repeat (any_goals (first | assumption | wp_step))
  refine codeAny_mono hnew fun r s₁ hr => ?_
  match r, hr with
  | .error e, hr => exact hr
  | .ok (.ret obj), hr =>
    obtain ⟨hT, hi⟩ := hinit _ _ hr
    have a6 := ft.init.bind obj
    repeat (any_goals (first | assumption | wp_step))
    refine codeAny_mono hi fun r₂ s₂ hr₂ => ?_
    match r₂, hr₂ with
    | .error e, h => exact h
    | .ok (.ret r), h =>
      obtain ⟨rfl, hq⟩ := h
      repeat (any_goals (first | assumption | wp_step))
abbrev newSet (w : World) : Obj := { cls := .type "set", dict := none, data := .set #[] 0 (.fresh 0 0 (!w.params.followText "set-order")) }
theorem fill_ints {a l : Addr} {its : List Value} {ns : List Int} {Q : Value → Shared → Prop} (hh : A.handled = none) (hS : s.heap.get? a = some (newSet w)) (hl : s.heap.IsList l its.toArray) (hi : IntsAre its ns) (hb : ns.length + 1 < scanBound)
    (h : ∀ s' c, SetR w s'.heap a (fun j => decide (j ∈ ns)) c → c ≤ ns.length → s'.gens = s.gens → s'.drawn = s.drawn → s'.os = s.os → (∀ b o, b ≠ a → s.heap.get? b = some o → s'.heap.get? b = some o) → Q .none s') :
    codeAny (model P w) A (.call (.builtin "set.__init__") ⟨[.ref a, .ref l], []⟩) (wants Q E) s := by
  have hT : s.TypeIs (.ref a) "set" := ⟨_, hS, rfl⟩
  have hn : its.length = ns.length := IntsAre.length hi
  have hla : l ≠ a := by
    rintro rfl
    obtain ⟨o, ho, _, n, hd⟩ := hl
    rw [hS] at ho
    cases ho
    cases hd
  refine codeAny_call_builtin F.called_set.init.plain F.entry_set_init (check_set_init_1 hT ?_)
  obtain ⟨ol, hol, hcl, nl, hdl⟩ := id hl
  have f1 := F.sub_list_set
  have f2 := F.sub_list_frozenset
  have f3 : (Value.type "list" == Value.type "dict") = false := by decide
  obtain ⟨ocls, odict, odata, oslots⟩ := ol
  simp only at hcl hdl
  subst hcl hdl
  unfold Builtin.«set.__init__» noKeywords Builtin.Frozenset.updateFrom
  generalize hg : pyIter = PI
  wp_walk
  subst hg
  have big : a < s.heap.objs.size := Heap.lt_size hS
  have low : l < s.heap.objs.size := Heap.lt_size hol
  have h3 : A.in1.in1.handled = none := by simp [hh]
  refine wpAny_pyIter_list (show ({ s with } : Shared).heap.IsList l its.toArray from hl) (wpAny_bind (wpAny_runValue ?_))
  have walk := (Walks.list (prog := P) (w := w) (A := A.in1.in1) h3 s.heap.objs.size l (Nat.ne_of_lt low) its.toArray).toS
  refine set_update_ints walk a ?_ ns (by rw [List.size_toArray]; exact hn) hb ?_ (its.toArray.size - 0) 0 _ (by omega) (Nat.zero_le _) ⟨⟨_, Heap.get?_push_size _ rfl, rfl, rfl⟩, hl.push _⟩ ⟨0, Nat.le_refl 0, setR_new_at (Heap.get?_push_of_some _ hS)⟩ ?_
  · intro z
    rcases List.mem_cons.mp z with z | z
    · exact absurd z (Nat.ne_of_lt big)
    · exact hla (List.mem_singleton.mp z).symm
  · intro i v hv
    have hv : its[i]? = some v := by simpa using hv
    have hlt : i < ns.length := by
      have := (List.getElem?_eq_some_iff.mp hv).1
      omega
    obtain ⟨t, e⟩ := IntsAre.int_at hi i v hv
    rw [List.getD_eq_getElem?_getD, List.getElem?_eq_getElem hlt, Option.getD_some] at e
    exact ⟨ns[i], t, List.getElem?_eq_getElem hlt, e⟩
  · intro s' c m hc R
    refine wpAny_pure (wpAny_pure (h s' c R (by rw [List.size_toArray, hn] at hc; exact hc) m.gens m.drawn m.os fun b o hb hbo => m.heap b o ?_ (Heap.get?_push_of_some _ hbo)))
    intro z
    rcases List.mem_cons.mp z with z | z
    · exact hb z
    · exact absurd (List.mem_singleton.mp z) (Nat.ne_of_lt (Heap.lt_size hbo))
theorem set_ints {l : Addr} {its : List Value} {ns : List Int} {Q : Value → Shared → Prop} (hh : A.handled = none) (hl : s.heap.IsList l its.toArray) (hi : IntsAre its ns) (hb : ns.length + 1 < scanBound)
    (h : ∀ h' tk c, SetR w h' s.heap.objs.size (fun j => decide (j ∈ ns)) c → c ≤ ns.length → (∀ b o, s.heap.get? b = some o → h'.get? b = some o) → Q (.ref s.heap.objs.size) { s with heap := h', toks := tk }) :
    wpAny (model P w) A (call (.type "set") [.ref l]) Q E s := by
  refine called_of F.called_set (F.typeCall_set_1 _) (Q₁ := fun obj s₁ => obj = .ref s.heap.objs.size ∧ s₁ = { s with heap := s.heap.push (newSet w) }) (code_set_led1 _ ⟨rfl, rfl⟩) ?_
  rintro obj s₁ ⟨rfl, rfl⟩
  have hS : (s.heap.push (newSet w)).get? s.heap.objs.size = some (newSet w) := Heap.get?_push_size _ rfl
  refine ⟨⟨_, hS, rfl⟩, fill_ints (s := { s with heap := s.heap.push (newSet w) }) (by simp [hh]) hS (hl.push _) hi hb fun s' c R hc e1 e2 e3 k => ⟨rfl, ?_⟩⟩
  obtain ⟨h', g', d', tk', os'⟩ := s'
  dsimp only at e1 e2 e3
  subst e1 e2 e3
  exact h h' tk' c R hc fun b o hb => k b o (Nat.ne_of_lt (Heap.lt_size hb)) (Heap.get?_push_of_some _ hb)
end
def rSetI (K : PySem.W.Frag) (w : World) : List V → Hp → VK → Prop := fun vs H Q => ∃ (a : Addr) (ns : List Int), vs = [.ref a] ∧ SqL K H a (ns.map V.int) ∧ ns.length + 1 < scanBound ∧
  ∀ p c, H p = none → c ≤ ns.length → Q (.ref p) (upd H p (SetO w p (fun j => decide (j ∈ ns)) c))
theorem cr_setI {X : Cx} (hc : X.calm = true) : CallR X (.type "set") (rSetI X.K X.w) := by
  intro pins s σ H vs us Q I r h
  obtain ⟨a, ns, rfl, hs, hb, q⟩ := h
  rw [Vals.ref1 r]
  obtain ⟨its, rv, hl, hz⟩ := I.list hs
  refine set_ints (I.ok.hd hc) hl.isList (intsAre_of rv) hb fun h' tk c R hcn k => ?_
  exact ⟨.ref _, upd H s.heap.objs.size (SetO X.w s.heap.objs.size (fun j => decide (j ∈ ns)) c), I.laid (t' := tk) (fun b u e => k b u e) (Nat.le_refl _) (setO_new R), rfl, q _ _ (I.hok.fresh (Nat.le_refl _)) hcn⟩
def insU (x : Int) : List Int → List Int
  | [] => [x]
  | y :: l => if x < y then x :: y :: l else if x = y then y :: l else y :: insU x l
def sortU (ns : List Int) : List Int := ns.foldr insU []
theorem insU_mem (x z : Int) : ∀ l : List Int, z ∈ insU x l ↔ z = x ∨ z ∈ l
  | [] => by simp [insU]
  | y :: l => by
    unfold insU
    by_cases h : x < y
    · rw [if_pos h]; simp
    · rw [if_neg h]
      by_cases e : x = y
      · rw [if_pos e]; subst e; simp
      · rw [if_neg e, List.mem_cons, insU_mem x z l, List.mem_cons]
        constructor
        · rintro (h | h | h)
          · exact .inr (.inl h)
          · exact .inl h
          · exact .inr (.inr h)
        · rintro (h | h | h)
          · exact .inr (.inl h)
          · exact .inl h
          · exact .inr (.inr h)
theorem insU_ris (x : Int) : ∀ l : List Int, l.Pairwise (· < ·) → (insU x l).Pairwise (· < ·)
  | [], _ => List.pairwise_singleton _ _
  | y :: l, h => by
    obtain ⟨h1, h2⟩ := List.pairwise_cons.mp h
    unfold insU
    by_cases c : x < y
    · rw [if_pos c]
      refine List.pairwise_cons.mpr ⟨fun z hz => ?_, h⟩
      rcases List.mem_cons.mp hz with rfl | hz
      · exact c
      · have := h1 z hz; omega
    · rw [if_neg c]
      by_cases e : x = y
      · rw [if_pos e]; exact h
      · rw [if_neg e]
        refine List.pairwise_cons.mpr ⟨fun z hz => ?_, insU_ris x l h2⟩
        rcases (insU_mem x z l).mp hz with rfl | hz
        · omega
        · exact h1 z hz
theorem sortU_mem (z : Int) : ∀ l : List Int, z ∈ sortU l ↔ z ∈ l
  | [] => Iff.rfl
  | y :: l => by
    show z ∈ insU y (sortU l) ↔ _
    rw [insU_mem, sortU_mem z l, List.mem_cons]
theorem sortU_ris : ∀ l : List Int, (sortU l).Pairwise (· < ·)
  | [] => .nil
  | y :: l => insU_ris y _ (sortU_ris l)
theorem ris_eq : ∀ {a b : List Int}, a.Pairwise (· < ·) → b.Pairwise (· < ·) → (∀ z, z ∈ a ↔ z ∈ b) → a = b
  | [], [], _, _, _ => rfl
  | [], y :: b, _, _, h => by have := (h y).mpr List.mem_cons_self; cases this
  | x :: a, [], _, _, h => by have := (h x).mp List.mem_cons_self; cases this
  | x :: a, y :: b, h1, h2, h => by
    obtain ⟨a1, a2⟩ := List.pairwise_cons.mp h1
    obtain ⟨b1, b2⟩ := List.pairwise_cons.mp h2
    have e : x = y := by
      have p := (h x).mp List.mem_cons_self
      have q := (h y).mpr List.mem_cons_self
      rcases List.mem_cons.mp p with p | p
      · exact p
      · rcases List.mem_cons.mp q with q | q
        · exact q.symm
        · have := a1 y q
          have := b1 x p
          omega
    subst e
    congr 1
    refine ris_eq a2 b2 fun z => ⟨fun hz => ?_, fun hz => ?_⟩
    · rcases List.mem_cons.mp ((h z).mp (List.mem_cons_of_mem _ hz)) with rfl | w
      · have := a1 z hz; omega
      · exact w
    · rcases List.mem_cons.mp ((h z).mpr (List.mem_cons_of_mem _ hz)) with rfl | w
      · have := b1 z hz; omega
      · exact w
noncomputable def dSortSet (d : D) : Rs O := match (lOf d).bind intsOf with
  | some ns => if ns.length < 64 then .ok (.node .lst ((sortU ns).map fun i => .dat (.int i))) else .bad
  | none => .bad
theorem ee_sortSet {X : Cx} {W : WX} {e : Expr} {f : FE} {p1 p2 pos1 pos : Pos} (hc : X.calm = true) (hg1 : Gl X "sorted") (hm1 : X.mg "sorted" = none) (hg2 : Gl X "set") (hm2 : X.mg "set" = none) (he : EE X W e f) (h1 : notStar e = true) :
    EE X W (.Call (.Name "sorted" p1) [.Call (.Name "set" p2) [e] [] pos1] [] pos) (eUn dSortSet f) := by
  have inner := pe_callTy (p := p2) (pos := pos1) (cr_setI (X := X) hc) hg2 hm2 PyProof.Rows.boot_set (pa_cons (to_rd he) pa_nil (star_cons h1)) (by decide) (by decide) (star_cons h1) (by rfl)
  refine PEimp (pe_callB (p := p1) (pos := pos) (cr_sortedSet (X := X) hc) hg1 hm1 PyProof.Rows.boot_sorted (pa_cons inner pa_nil (by rfl)) (by decide) (by decide) (by rfl) (by rfl)) fun σ H Q ⟨ρ, G, fp, c, q⟩ => seqE (R := RR X.K) c q fun d v G1 H1 f1 _ g q1 => ?_
  unfold dSortSet at q1
  cases z : (lOf d).bind FL.intsOf with
  | none => rw [z] at q1; exact q1.elim
  | some ns =>
    rw [z] at q1
    simp only at q1
    by_cases hn : ns.length < 64
    · rw [if_pos hn] at q1
      obtain ⟨a, rfl, hs⟩ := RdV.intsOf g.x g.rep.2 z
      refine ⟨a, ns, rfl, hs, by unfold scanBound; omega, fun p k hp hk => ?_⟩
      refine ⟨p, _, k, rfl, upd_same, by omega, fun ms r h2 h3 _ hr => ?_⟩
      obtain rfl : ms = sortU ns := ris_eq h2 (sortU_ris ns) fun z => by rw [h3 z, sortU_mem]; simp
      have q2 := Post.step (Gr.refl) (Ex.new (o := SetO X.w p (fun j => decide (j ∈ ns)) k) hp) q1
      have e : (sortU ns).map (fun i => O.dat (.int i)) = ((sortU ns).map D.int).map .dat := by rw [List.map_map]; rfl
      rw [e] at q2
      have isd : ∀ l : List Int, IsDs X.K G1 (l.map V.int) (l.map D.int) := fun l => by
        induction l with
        | nil => exact .nil
        | cons x l ih => exact .cons (.int x) ih
      exact Post.nl q2 (g.x.trans (Ex.new hp)) (isd _) hr
    · rw [if_neg hn] at q1; exact q1.elim
end FL
namespace FL
open PySem L2 PyProof.Rows
open PySem.W (AlikeAll minD min_list_default min_tuple_default)
def rMinDf (K : PySem.W.Frag) : List V → List V → Hp → VK → Prop := fun vs zs H Q => ∃ (a : Addr) (xs : List V) (ds : List PyData), vs = [.ref a] ∧ zs = [.non] ∧ (SqL K H a xs ∨ SqT K H a xs) ∧ DpAll K H xs ds ∧ AlikeAll ds ∧ PyData.depthAll ds ≤ 9 ∧ (ds = [] → Q .non H) ∧
  ∀ (d0 : PyData) (dr : List PyData) (i : Nat) (v : V), ds = d0 :: dr → xs[i]? = some v → ds[i]? = some (minD d0 dr) → Q v H
section
variable {X : Cx}
theorem cr_minDf (hc : X.calm = true) (hu : X.A.units + 66 < cLine) : CallRK X (.builtin "min") [Str.ofString "default"] (rMinDf X.K) := by
  intro pins s σ H vs zs us ws Q I r rz h
  obtain ⟨a, xs, ds, rfl, rfl, hs, hd, hal, hdp, q0, q⟩ := h
  rw [Vals.ref1 r]
  obtain ⟨w1, rfl, e1⟩ := vals1 rz
  obtain rfl : w1 = Value.none := e1
  have fin : ∀ {its : List Value}, Vals xs its → ∀ (y : PyData) (ys : List PyData) (i : Nat) v h' tk bs, ds = y :: ys → its.toArray[i]? = some v → Reads h' v (minD y ys) bs → (∀ b o, s.heap.get? b = some o → h'.get? b = some o) → EP X pins σ Q v { s with heap := h', toks := tk } := fun {its} rv y ys i v h' tk bs e hv hr hk => by
    have hv : its[i]? = some v := by simpa using hv
    obtain ⟨as, ra⟩ := Dp.readsAll I _ _ _ hd rv
    have ra2 := PyProof.Rows.ReadsAll.keeps hk ra
    obtain ⟨w, hw, rw'⟩ := valsU rv hv
    exact ⟨w, H, I.kept hk, rw', q y ys i w e hw (best_idx ra2 hal (by rw [e]; exact minD_mem y ys) hv hr)⟩
  have non : ds = [] → ∀ h' tk, (∀ b o, s.heap.get? b = some o → h'.get? b = some o) → EP X pins σ Q .none { s with heap := h', toks := tk } := fun e h' tk hk => ⟨.non, H, I.kept hk, rfl, q0 e⟩
  rcases hs with hs | hs
  · obtain ⟨its, rv, hl, _⟩ := I.list hs
    obtain ⟨as, ra⟩ := Dp.readsAll I _ _ _ hd rv
    exact min_list_default (I.ok.hd hc) hl.isList (by simpa using ra) hal (by omega) non fun y ys i v h' tk bs e hv hr hk => fin rv y ys i v h' tk bs e hv hr hk
  · obtain ⟨its, rv, hl, _⟩ := I.tuple hs
    obtain ⟨as, ra⟩ := Dp.readsAll I _ _ _ hd rv
    exact min_tuple_default (I.ok.hd hc) (show s.heap.IsTuple a its.toArray from hl) (by simpa using ra) hal (by omega) non fun y ys i v h' tk bs e hv hr hk => fin rv y ys i v h' tk bs e hv hr hk
end
open Classical in
noncomputable def dMinN : List D → Rs O
  | [d] => match seqI d with
    | some [] => .ok (.dat .non)
    | some (x :: l) => if okMin (x :: l) then .ok (.dat (minDD x l)) else .bad
    | none => .bad
  | _ => .bad
section
variable {K : PySem.W.Frag} {G H : Hp} {mg : Str → Option Value} {W : WX} {σ : L2.St}
theorem minN_F {Q : VK} {vs : List V} {ds : List D} (ex : Ex G H) (h : RdVs K G H vs ds) (q : Post K mg W (RO K) ((dMinN ds).bnd okT) σ G H Q) : rMinDf K vs [.non] H Q := by
  match ds, h, q with
  | [], h, q => exact q.elim
  | _ :: _ :: _, h, q => exact q.elim
  | [d], h, q =>
    obtain ⟨v, rfl, hx⟩ := h.one
    unfold dMinN at q
    cases e : FL.seqI d with
    | none => simp only [e] at q; exact q.elim
    | some l =>
      obtain ⟨a, xs, rfl, h1, h2⟩ := hx.seqI ex e
      cases l with
      | nil =>
        simp only [e] at q
        cases h2
        refine ⟨a, [], [], rfl, rfl, h1, .nil, ⟨fun x hx => (by cases hx), fun x hx => (by cases hx)⟩, Nat.zero_le _, fun _ => Post.dt q ex .non, fun d0 dr i v e => (by cases e)⟩
      | cons x l =>
        simp only [e] at q
        by_cases ok : okMin (x :: l)
        · rw [if_pos ok] at q
          obtain ⟨o1, o2, o3⟩ := ok
          obtain ⟨p1, p2, p3⟩ := okE_dp ex h2 o1
          refine ⟨a, xs, (x :: l).map pyD, rfl, rfl, h1, p1, o3, p2, fun e => by simp at e, fun d0 dr i v e hv hi => Post.dt q ex (isDs_at h2 o2 (minDD_mem x l) hv ?_)⟩
          rw [List.map_cons] at e
          obtain ⟨rfl, rfl⟩ := List.cons.inj e
          rw [minDD_py]
          simpa using hi
        · rw [if_neg ok] at q; exact q.elim
end
section
variable {X : Cx} {W : WX} {e : Expr} {f : FA} {fe : FE} {p pos kp cp : Pos} {k : Nat}
theorem ee_minN (hc : X.calm = true) (hu : X.A.units + 66 < cLine) (hgl : Gl X "min") (hm : X.mg "min" = none) (ha : ER X W [e] f) (h1 : notStar e = true) : EE X W (.Call (.Name "min" p) [e] [⟨some "default", .Constant .none k cp, kp⟩] pos) (eFn dMinN f) :=
  PEimp (pe_callBK (cr_minDf hc hu) hgl hm PyProof.Rows.boot_min ha (pk_cons pe_non pk_nil) (by decide) (by decide)
    (by rw [star_cons h1]; rfl) (by rw [star_cons h1]; rfl) (by rfl) (by rfl) (by rfl)) fun σ H Q ⟨ρ, G, fp, c, q⟩ => seqE (R := RAr X.K) c q fun ds vs G1 H1 f1 _ g1 q1 => minN_F g1.x g1.rep.2 q1
end
section
variable {prog : Program} {w : World} {A : Around} {E : Value → Shared → Prop} {s : Shared}
theorem applied_back {sl : Addr} {t : Tok} {n : Nat} {Q : Int × Int × Nat → Shared → Prop} (hs : s.heap.IsSliceOf sl .none .none (.int (-1) t)) (h : Q ((n : Int) - 1, -1, n) s) : wpAny (model prog w) A (Builtin.Slice.sliceApplied (.ref sl) (pure (n : Int))) Q E s := by
  obtain ⟨os, hos, _, hds⟩ := id hs
  unfold Builtin.Slice.sliceApplied Builtin.Slice.sliceFields
  refine wpAny_bind (wpAny_bind (wpAny_field hos hds (x := .none) rfl (wpAny_bind (wpAny_field hos hds (x := .none) rfl (wpAny_bind (wpAny_field hos hds (x := .int (-1) t) rfl (wpAny_pure ?_)))))))
  refine wpAny_bind (HT.slicePart_ (.int (-1) t) ?_)
  show wpAny _ _ (if ((-1 : Int) == 0) = true then _ else _) _ _ s
  rw [if_neg (by decide)]
  refine wpAny_bind (HT.slicePart_ .none (wpAny_bind (HT.slicePart_ .none (wpAny_bind (wpAny_pure ?_)))))
  have e : Builtin.Slice.slicePlaces ((n : Int) - 1) (-1) (-1) = n := by
    unfold Builtin.Slice.slicePlaces
    have a1 : ¬ ((-1 : Int) > 0) := by decide
    simp only [a1, if_false]
    by_cases z : (n : Int) - 1 > -1
    · rw [if_pos z]
      have : ((n : Int) - 1 - -1 - 1) / (- -1) = (n : Int) - 1 := by
        rw [show (- -1 : Int) = 1 by decide, Int.ediv_one]; omega
      rw [this]; omega
    · rw [if_neg z]; omega
  show wpAny _ _ (pure ((n : Int) - 1, (-1 : Int), Builtin.Slice.slicePlaces ((n : Int) - 1) (-1) (-1))) _ _ s
  rw [e]
  exact wpAny_pure h
theorem fm_congr {α β : Type} {f g : α → Option β} : ∀ {l : List α}, (∀ x ∈ l, f x = g x) → l.filterMap f = l.filterMap g
  | [], _ => rfl
  | x :: l, h => by
    rw [List.filterMap_cons, List.filterMap_cons, h x List.mem_cons_self, fm_congr fun y hy => h y (List.mem_cons_of_mem _ hy)]
theorem back_pick (xs : List Value) : ((List.range xs.length).filterMap fun (k : Nat) => xs.toArray[((((xs.length : Int) - 1) + (k : Int) * -1)).toNat]?) = xs.reverse := by
  have e : ∀ k ∈ List.range xs.length, xs.toArray[((((xs.length : Int) - 1) + (k : Int) * -1)).toNat]? = xs.reverse[k]? := fun k hk => by
    have := List.mem_range.mp hk
    have e1 : ((((xs.length : Int) - 1) + (k : Int) * -1)).toNat = xs.length - 1 - k := by omega
    rw [e1, List.getElem?_reverse this, List.getElem?_toArray]
  rw [fm_congr e]
  have : ∀ (l : List Value), (List.range l.length).filterMap (fun k => l[k]?) = l := fun l => by
    induction l with
    | nil => rfl
    | cons x l ih =>
      rw [List.length_cons, List.range_succ_eq_map, List.filterMap_cons, List.filterMap_map]
      simp only [List.getElem?_cons_zero]
      congr 1
  have z := this xs.reverse
  rw [List.length_reverse] at z
  exact z
theorem getItem_tup_back {t sl : Addr} {its : List Value} {u : Tok} {Q : Value → Shared → Prop} (ht : IsTup s.heap t its.toArray) (hs : s.heap.IsSliceOf sl .none .none (.int (-1) u)) (hz : its.length ≤ sizeLine)
    (h : Q (.ref s.heap.objs.size) { s with heap := s.heap.push { cls := .type "tuple", data := .seq its.reverse.toArray } }) :
    wpAny (model prog w) A (getItem (.ref t) (.ref sl)) Q E s := by
  obtain ⟨os, hos, hcs, hds⟩ := id hs
  have hTs : s.TypeIs (.ref sl) "slice" := ⟨os, hos, hcs⟩
  unfold getItem
  try with_reducible refine wpAny_holding ?_
  first | refine wpAny_bind (wpAny_pure ?_) | skip
  refine wpAny_bind (wpAny_sequenceKey ht.typeIs (by decide) ?_)
  refine wpAny_bind (wpAny_callSpecial?_slot (name := Str.ofString "__getitem__") ht.typeIs PyProof.Rows.slot_tuple_getitem
    (wpAny_call_entry PyProof.Rows.slot_tuple_getitem ht.typeIs PyProof.Rows.entry_tuple_getitem ?_ (PyProof.Rows.args_tuple_getitem _ _)))
  show wpAny _ _ (Builtin.Tuple.tupleItemsOf (.ref t) >>= _) _ _ s
  refine wpAny_bind (PyProof.Rows.tupleItemsOf_ ht ?_)
  refine wpAny_bind (wpAny_typeOf hTs ?_)
  rw [if_pos (by decide)]
  refine wpAny_bind (applied_back hs ?_)
  have no : ¬ ((((its.toArray.size : Int) - 1) == 0 && (-1 : Int) == 1 && its.toArray.size == its.toArray.size) = true) := by
    rw [show ((-1 : Int) == 1) = false by decide]; simp
  show wpAny _ _ (if ((((its.toArray.size : Int) - 1) == 0 && (-1 : Int) == 1 && its.toArray.size == its.toArray.size) = true) then _ else _) _ _ s
  rw [if_neg no, List.size_toArray, back_pick]
  have hz2 : sizeOk (.seq its.reverse.toArray) := by
    show its.reverse.toArray.size ≤ sizeLine
    rw [List.size_toArray, List.length_reverse]; exact hz
  first
    | exact wpAny_bind (m := Builtin.Tuple.tupleExact _) (wpAny_newObj_type (wpAny_pure ⟨_, rfl, wpAny_pure h⟩) hz2)
    | exact wpAny_bind (m := Builtin.Tuple.tupleExact _) (wpAny_newObj_type (wpAny_bind (wpAny_pure (wpAny_pure ⟨_, rfl, wpAny_pure h⟩))) hz2)
    | exact wpAny_bind (wpAny_bind (m := Builtin.Tuple.tupleExact _) (wpAny_newObj_type (wpAny_pure (wpAny_pure ⟨_, rfl, wpAny_pure h⟩)) hz2))
    | exact wpAny_bind (wpAny_bind (m := Builtin.Tuple.tupleExact _) (wpAny_newObj_type (wpAny_pure ⟨_, rfl, wpAny_pure h⟩) hz2))
end
def tBack (K : PySem.W.Frag) (te : TE) : TE := fun σ H Q => te σ H fun x H1 => ∃ a xs, x = .ref a ∧ ((SqL K H1 a xs ∧ ∀ p, H1 p = none → Q (.ref p) (upd H1 p (.lst xs.reverse))) ∨ (SqT K H1 a xs ∧ ∀ p, H1 p = none → Q (.ref p) (upd H1 p (.tup xs.reverse))))
theorem pe_back {X : Cx} {e : Expr} {te : TE} {k : Nat} {p1 p2 p3 pos : Pos} (he : PE X e te) : PE X (.Subscript e (.Slice none none (some (.UnaryOp .USub (.Constant (.int 1) k p1) p2)) p3) pos) (tBack X.K te) := by
  refine ⟨fun pins s σ H Q I h => ?_⟩
  refine Subscript_ (thn (he.run pins s σ H _ I h) fun v s1 ⟨x, H1, I1, r1, q1⟩ => ?_)
  obtain ⟨a, xs, ex, q⟩ := q1
  subst ex
  cases r1
  have hst : PO X (some (.UnaryOp .USub (.Constant (.int 1) k p1) p2)) (tPart (tUn (rU fun i => .int (-i)) (tC (.int 1)))) := po_some (pe_un un_neg pe_int)
  refine wpAny_Slice (thn (po_none.run pins s1 σ H1 (fun o H2 => o = none ∧ H2 = H1) I1 ⟨rfl, rfl⟩) fun vl s2 g2 => ?_)
  obtain ⟨l, H2, I2, pl, rfl, rfl⟩ := g2
  refine thn (po_none.run pins s2 σ H2 (fun o H3 => o = none ∧ H3 = H2) I2 ⟨rfl, rfl⟩) fun vu s3 g3 => ?_
  obtain ⟨u, H3, I3, pu, rfl, rfl⟩ := g3
  refine thn (hst.run pins s3 σ H3 (fun o H4 => o = some (-1) ∧ H4 = H3) I3 ⟨1, rfl, -1, rfl, rfl, rfl⟩) fun vs s4 g4 => ?_
  obtain ⟨o, H4, I4, ps, rfl, rfl⟩ := g4
  have I5 : Inv X pins σ H4 { s4 with heap := s4.heap.push { cls := .type "slice", data := .fields #[vl, vu, vs] } } := I4.kept (t' := s4.toks) fun b ob q => Heap.get?_push_of_some _ q
  show wpAny (model X.prog X.w) X.A (subscriptTail e (.Slice none none (some (.UnaryOp .USub (.Constant (.int 1) k p1) p2)) p3) (.ref a) (.ref s4.heap.objs.size)) (EP X pins σ Q) X.xe { s4 with heap := s4.heap.push { cls := .type "slice", data := .fields #[vl, vu, vs] } }
  rcases q with ⟨hx, q⟩ | ⟨hx, q⟩
  · obtain ⟨its, r, ht, hz⟩ := I5.list hx
    have hlen := r.length
    refine tail_any (ops := [.ref a, .ref s4.heap.objs.size]) ht.isList.typeIs (PySem.slot_list_getitem.lookup) ?_ (by with_unfolding_all rfl)
    refine wpAny_getItem_list_slice ht.isList (Heap.IsSliceOf.new _ vl vu vs) pl pu ps (by decide) ?_ (by rw [List.size_toArray]; omega)
    rw [PySem.W.krv_pick]
    exact ⟨.ref _, _, I5.laid (t' := s4.toks) (o := .lst xs.reverse) (fun b ob q => Heap.get?_push_of_some _ q) (Nat.le_refl _) ⟨by rw [List.length_reverse]; exact hz, _, 0, r.reverse, Heap.get?_push_size _ rfl⟩, rfl, q _ (I5.hok.fresh (Nat.le_refl _))⟩
  · obtain ⟨its, r, ht, hz⟩ := I5.tuple hx
    have hlen := r.length
    cases pl
    cases pu
    cases ps
    refine tail_any (ops := [.ref a, .ref s4.heap.objs.size]) ht.typeIs (PyProof.Rows.slot_tuple_getitem.lookup) ?_ (by with_unfolding_all rfl)
    refine getItem_tup_back ht (Heap.IsSliceOf.new _ _ _ _) (by omega) ?_
    exact ⟨.ref _, _, I5.laid (t' := s4.toks) (o := .tup xs.reverse) (fun b ob q => Heap.get?_push_of_some _ q) (Nat.le_refl _) ⟨by rw [List.length_reverse]; exact hz, _, r.reverse, IsTup.new _ _⟩, rfl, q _ (I5.hok.fresh (Nat.le_refl _))⟩
def dBack : D → Rs O
  | .lst l => .ok (.node .lst (l.reverse.map .dat))
  | .scr l => .ok (.node .lst (l.reverse.map .dat))
  | .tup l => .ok (.dat (.tup l.reverse))
  | _ => .bad
theorem ee_back {X : Cx} {W : WX} {e : Expr} {fe : FE} {k : Nat} {p1 p2 p3 pos : Pos} (he : EE X W e fe) : EE X W (.Subscript e (.Slice none none (some (.UnaryOp .USub (.Constant (.int 1) k p1) p2)) p3) pos) (eUn dBack fe) :=
  PEimp (pe_back (to_rd he)) fun σ H Q ⟨ρ, G, fp, c, q⟩ => seqE (R := RR X.K) c q fun d v G1 H1 f _ g q1 => by
    cases d with
    | tup l =>
      obtain ⟨a, xs, rfl, h1, h1', h2⟩ := g.rep.2.tup g.x
      exact ⟨a, xs, rfl, .inr ⟨h1, fun p n => Post.nt q1 g.x h2.reverse n⟩⟩
    | lst l =>
      obtain ⟨a, xs, rfl, h1, h2⟩ := g.rep.2.seql g.x (.inl rfl)
      exact ⟨a, xs, rfl, .inl ⟨h1, fun p n => Post.nl q1 g.x h2.reverse n⟩⟩
    | scr l =>
      obtain ⟨a, xs, rfl, h1, h2⟩ := g.rep.2.seql g.x (.inr rfl)
      exact ⟨a, xs, rfl, .inl ⟨h1, fun p n => Post.nl q1 g.x h2.reverse n⟩⟩
    | _ => exact q1.elim
def idxD (l : List D) (x : D) : Rs O := if okE 8 x = true ∧ okEs 7 l = true then (match l.findIdx? fun z => eqD z x with
  | some j => .ok (.dat (.int j))
  | none => .bad) else .bad
def lstI : D → Option (List D)
  | .lst l => some l
  | .scr l => some l
  | _ => none
def eIndex (fo fx : FE) : FE := fun ρ => (rdE fo ρ).bnd fun d => match lstI d with
  | some l => (rdE fx ρ).bnd fun x => (idxD l x).bnd okT
  | none => .bad
theorem lstI_is {d : D} {l : List D} (h : lstI d = some l) : d = .lst l ∨ d = .scr l := by
  cases d <;> simp [lstI] at h <;> subst h <;> first | exact .inl rfl | exact .inr rfl
theorem okEs_c2 {n : Nat} {x : D} {l : List D} : okEs n (x :: l) = (okE n x && okEs n l) := by cases n <;> rfl
theorem okEs_at {n : Nat} {z : D} : ∀ {l : List D} {j : Nat}, okEs n l = true → l[j]? = some z → okE n z = true
  | x :: l, 0, h, e => by
    rw [okEs_c2, Bool.and_eq_true] at h
    cases e
    exact h.1
  | x :: l, j + 1, h, e => by
    rw [okEs_c2, Bool.and_eq_true] at h
    exact okEs_at h.2 (by simpa using e)
theorem pyDs_at : ∀ {l : List D} {j : Nat} {z : PyData}, (pyDs l)[j]? = some z → ∃ d, l[j]? = some d ∧ z = pyD d
  | x :: l, 0, _, e => by
    have : some (pyD x) = _ := e
    cases this
    exact ⟨x, rfl, rfl⟩
  | x :: l, j + 1, z, e => by
    have : (pyDs l)[j]? = some z := by simpa [pyDs] using e
    obtain ⟨d, h1, h2⟩ := pyDs_at this
    exact ⟨d, by simpa using h1, h2⟩
theorem pyDs_to : ∀ {l : List D} {j : Nat} {d : D}, l[j]? = some d → (pyDs l)[j]? = some (pyD d)
  | x :: l, 0, _, e => by
    cases e
    rfl
  | x :: l, j + 1, _, e => by
    have := pyDs_to (l := l) (j := j) (by simpa using e)
    simpa [pyDs] using this
section
variable {K : PySem.W.Frag} {G H : Hp} {mg : Str → Option Value} {W : WX} {σ : L2.St}
theorem idx_read {v w : V} {dl x : D} {l : List D} {Q : VK} (ex : Ex G H) (hv : RdV K G H v dl) (he : dl = .lst l ∨ dl = .scr l) (hx : RdV K G H w x) (q : Post K mg W (RO K) ((idxD l x).bnd okT) σ G H Q) : rIndexD K v [w] H Q := by
  unfold idxD at q
  split at q
  · next ok =>
    obtain ⟨o1, o2⟩ := ok
    split at q
    · next j e =>
      have od : okE 8 dl = true := by rcases he with rfl | rfl <;> exact o2
      have pd : pyD dl = .list (pyDs l) := by rcases he with rfl | rfl <;> rfl
      have s2 := okE_shaped (by decide : (8 : Nat) ≤ 64) od
      have d2 := hv.dp ex od
      rw [pd] at s2 d2
      obtain ⟨a, xs, rfl, _, _⟩ := hv.seql ex he
      obtain ⟨hlt, hj, hno⟩ := List.findIdx?_eq_some_iff_getElem.mp e
      refine ⟨a, w, pyD x, pyDs l, j, pyD l[j], rfl, rfl, d2, hx.dp ex o1, s2, okE_shaped (by decide) o1, pyDs_to (List.getElem?_eq_getElem hlt), ?_, fun m z' hm hz => ?_, Post.dt q ex (.int _)⟩
      · rw [eqD_py 8 _ _ (any_py.okE_up (okEs_at o2 (List.getElem?_eq_getElem hlt))) o1]; exact hj
      · obtain ⟨d, h1, rfl⟩ := pyDs_at hz
        rw [eqD_py 8 _ _ (any_py.okE_up (okEs_at o2 h1)) o1]
        have hml : m < l.length := by omega
        have := hno m hm
        rw [List.getElem?_eq_getElem hml] at h1
        cases h1
        simpa using this
    · exact q.elim
  · exact q.elim
end
section
variable {X : Cx} {W : WX} {o e : Expr} {fo fx : FE} {ap pos : Pos}
theorem ee_index (hu : X.A.units + 66 < cLine) (ho : EE X W o fo) (hx : EE X W e fx) (h1 : notSup o = true) (h2 : (ap.endLine == pos.line) = true) (h3 : notStar e = true) : EE X W (.Call (.Attribute o "index" ap) [e] [] pos) (eIndex fo fx) := by
  have hs : ([e] : List Expr).all notStar = true := by simp [h3]
  refine PEimp (pe_bm PySem.F.plainAttrs_list PySem.F.slot_list_index PySem.F.type_list_index (mt_indexD (X := X) (by omega)) (to_rd ho) (pa_cons (to_rd hx) pa_nil (star_cons h3)) (attr_base h1) (by
    rw [star_all hs]
    simp only [Bool.true_and, Bool.and_eq_true, decide_eq_true_eq]
    exact ⟨rfl, by simp⟩) h2 (star_cons h3) rfl) fun σ H Q ⟨ρ, G, fp, c, q⟩ => seqE (R := RR X.K) c q fun d v G1 H1 f _ g q1 => ?_
  cases z : lstI d with
  | none => rw [z] at q1; exact q1.elim
  | some l =>
    rw [z] at q1
    have hl := lstI_is z
    obtain ⟨a, xs, rfl, k1, _⟩ := g.rep.2.seql g.x hl
    refine ⟨.inl ⟨rfl, xs, k1⟩, ?_⟩
    exact seqE (R := RR X.K) (g.conf c) q1 fun x w G2 H2 f2 _ g2 q2 => idx_read g2.x (g.rep.2.mono g2.gr.ex g2.eh) hl g2.rep.2 q2
end
def ownIt (own : List Str) : Expr → Bool
  | .Name x _ => decide (x ∈ own)
  | _ => false
def tryF (C : CC) (iter : Expr) (f : FE) : FE := if ownIt C.own iter = true then eTry f else f
def tryE (C : CC) (es : List Expr) (f : FE) : FE := if es.any (ownIt C.own) = true then eTry f else f
theorem ee_tryE {C : CC} {X : Cx} {W : WX} {es : List Expr} {e : Expr} {fe : FE} (h : EE X W e fe) : EE X W e (tryE C es fe) := by
  unfold tryE
  split
  · exact ee_try h
  · exact h
noncomputable def compEx (C : CC) (r : Expr → Option FE) : Expr → Option FE
  | .Call (.Name x _) [.Call (.Name y _) [e] [] _] [] _ => if x = "sorted" ∧ y = "set" ∧ C.calm = true ∧ notStar e = true ∧ glB C.sc x = true ∧ glB C.sc y = true then (match C.glb x, C.glb y, r e with
      | .blt, .blt, some f => some (tryE C [e] (eUn dSortSet f))
      | _, _, _ => none) else none
  | .Call (.Name x _) [e] [⟨nm, .Constant .none _ _, _⟩] _ => if x = "min" ∧ nm = some "default" ∧ C.calm = true ∧ notStar e = true ∧ glB C.sc x = true then (match C.glb x, r e with
      | .blt, some f => some (tryE C [e] (eFn dMinN (rCons f aNil)))
      | _, _ => none) else none
  | .Call (.Attribute o m ap) [e] [] pos => if m = "index" ∧ notSup o = true ∧ (ap.endLine == pos.line) = true ∧ notStar e = true then (match r o, r e with
      | some fo, some fx => some (tryE C [o, e] (eIndex fo fx))
      | _, _ => none) else none
  | .Subscript e (.Slice none none (some (.UnaryOp .USub (.Constant (.int i) _ _) _)) _) _ => if i = 1 then (r e).map (eUn dBack) else none
  | _ => none
theorem compEx_ok {C : CC} {X : Cx} {W : WX} {r : Expr → Option FE} (F : Fits C X) (hr : ∀ {e : Expr} {f : FE}, r e = some f → EE X W e f) {e : Expr} {f : FE} (h : compEx C r e = some f) : EE X W e f := by
  unfold compEx at h
  split at h
  · next x p1 y p2 e pos1 pos =>
    split at h
    · next hc =>
      obtain ⟨rfl, rfl, c1, c2, c3, c4⟩ := hc
      split at h
      · next f1 h1 h2 h3 =>
        cases h
        have hm1 := F.glb "sorted"
        rw [h1] at hm1
        have hm2 := F.glb "set"
        rw [h2] at hm2
        exact ee_tryE (ee_sortSet (F.calm c1) (glB_ok (by rw [F.sc]; exact c3)) hm1 (glB_ok (by rw [F.sc]; exact c4)) hm2 (hr h3) c2)
      · cases h
    · cases h
  · next x p e nm k cp kp pos =>
    split at h
    · next hc =>
      obtain ⟨rfl, rfl, c1, c2, c3⟩ := hc
      split at h
      · next f1 h1 h2 =>
        cases h
        have hm := F.glb "min"
        rw [h1] at hm
        exact ee_tryE (ee_minN (F.calm c1) F.un (glB_ok (by rw [F.sc]; exact c3)) hm (er_cons (hr h2) er_nil (star_cons c2)) c2)
      · cases h
    · cases h
  · next o m ap e pos =>
    split at h
    · next hc =>
      obtain ⟨rfl, c1, c2, c3⟩ := hc
      split at h
      · next f1 f2 h1 h2 =>
        cases h
        exact ee_tryE (ee_index F.un (hr h1) (hr h2) c1 c2 c3)
      · cases h
    · cases h
  · next e i k p1 p2 p3 pos =>
    split at h
    · next hi =>
      subst hi
      obtain ⟨g, h2, rfl⟩ := Option.map_eq_some_iff.mp h
      exact ee_back (hr h2)
    · cases h
  · cases h
end FL
namespace FL
open PySem L2
def eIsX (a0 : Addr) (d0 : Option Addr) (b : Option Bool) (f : FE) : FE := fun ρ => eIsE a0 d0 b f ρ
def compName (C : CC) (x : Str) : Option FE := if plainN x = true then
    (if visB C.sc x = true then (match slotOf C.N x with
      | some i => some (eVar i)
      | none => none)
    else if glB C.sc x = true then (match C.glb x with
      | .cst d => some (eK d)
      | _ => none) else none) else none
def ownOf (N : List Str) (scope : Scope) : List (Str × Nat) := scope.names.filterMap fun q => match q.2 with
  | .local => (slotOf N q.1).map fun i => (q.1, i)
  | .cell => (slotOf N q.1).map fun i => (q.1, i)
  | _ => none
def CC.inner (C : CC) (scope : Scope) : CC := { C with sc := relS scope C.sc, st := locB scope, exn := none }
def compG1 (C : CC) (kp : List Nat) : Expr → Option FG
  | .Name x _ => if C.st x = true then (match slotOf C.N x with
      | some i => if i ∈ kp then none else some (bName i)
      | none => none) else none
  | _ => none
def compGs (f : Expr → Option FG) : List Expr → Option (List D → Env → Option Env)
  | [] => some bNil
  | e :: es => match f e, compGs f es with
    | some b, some bs => some (bCons b bs)
    | _, _ => none
def compG (C : CC) (kp : List Nat) : Nat → Expr → Option FG
  | n + 1, .Tuple es _ _ => if es.all notStar = true then (compGs (compG C kp n) es).map fun bs => bTup es.length bs else none
  | _, e => compG1 C kp e
def pkM (C : CC) : Bool := decide (("()" : Str) ∈ C.own)
def ixLit (C : CC) : Expr → Expr → Option Int
  | .Call (.Name _ _) _ _ _, .Constant (.int k) _ _ => if pkM C = true then some k else none
  | _, _ => none
def eIxC (C : CC) (a b : Expr) (fa fb : FE) : FE := match ixLit C a b with
  | some k => eIxO k fa
  | none => eIx fa fb
def isnAny (C : CC) (c : Str) : List Expr → Option Bool
  | [] => some false
  | .Name y _ :: es => if plainN y = true ∧ glB C.sc y = true then (match C.isn c y, isnAny C c es with
    | some b, some r => some (b || r)
    | _, _ => none) else none
  | _ => none
mutual
noncomputable def compE : Nat → CC → Expr → Option FE
  | 0, _, _ => none
  | n + 1, C, e => match e with
    | .Constant (.int i) _ _ => some (eK (.int i))
    | .Constant (.bool b) _ _ => some (eK (.bl b))
    | .Constant .none _ _ => some (eK .non)
    | .Constant (.str s) _ _ => some (eK (.str s))
    | .Name x _ => compName C x
    | .BinOp a op b _ => (match opF op, compE n C a, compE n C b with
      | some g, some fa, some fb => some (eOp g fa fb)
      | _, _, _ => none)
    | .UnaryOp .USub a _ => (compE n C a).map (eUn dNeg)
    | .UnaryOp .Not a _ => (compE n C a).map fun f => eNot (bE f)
    | .BoolOp op vs _ => compBo n C op vs
    | .Dict [] [] _ => some (eDnew false)
    | .Dict [some k] [v] _ => (match compE n C k, compE n C v with
      | some fk, some fv => some (eD1 fk fv)
      | _, _ => none)
    | .Compare a [.In] [b] _ => (match compE n C a, compE n C b with
      | some fa, some fb => if notSet b = true then some (tryE C [a, b] (eIn false fa fb)) else none
      | _, _ => none)
    | .Compare a [.NotIn] [b] _ => (match compE n C a, compE n C b with
      | some fa, some fb => if notSet b = true then some (tryE C [a, b] (eIn true fa fb)) else none
      | _, _ => none)
    | .Compare a [op] [b] _ => (match cmpF op, compE n C a, compE n C b with
      | some g, some fa, some fb => if notSet b = true then some (tryE C [a, b] (eOp g fa fb)) else none
      | _, _, _ => none)
    | .Compare a [op, op'] [b, c] _ => (match cmpF op, cmpF op', compE n C a, compE n C b, compE n C c with
      | some g, some g', some fa, some fb, some fc => if notSet c = true then some (eChain g g' fa fb fc) else none
      | _, _, _, _, _ => none)
    | .IfExp t a b _ => (match compT n C t, compE n C a, compE n C b with
      | some g, some fa, some fb => some (eIf g fa fb)
      | _, _, _ => none)
    | .Subscript a (.Slice lo hi none _) _ => (match compE n C a, compO n C lo, compO n C hi with
      | some fa, some fl, some fh => some (eSl fa fl fh)
      | _, _, _ => none)
    | .Subscript a (.Slice lo hi (some st) p1) p => compEx C (compE n C) (.Subscript a (.Slice lo hi (some st) p1) p)
    | .Subscript a b _ => (match compE n C a, compE n C b with
      | some fa, some fb => if notSlice b = true then some (eIxC C a b fa fb) else none
      | _, _ => none)
    | .Tuple es _ _ => if es.all notStar = true then (compA n C es).map (eFn dTup) else none
    | .List es _ => if es.all notStar = true then (compA n C es).map (eFn dLst) else none
    | .Call (.Name x p1) (a :: as) [] p2 => if plainN x = true ∧ notStar a = true ∧ as.all notStar = true ∧ glB C.sc x = true then (match C.glb x with
        | .fn k F => if (a :: as).length = k ∧ C.calm = true then (compOs n C (a :: as)).map (eCall F) else none
        | .blt => if x = "isinstance" then (match as with
            | [ce] => compIs n C a ce
            | _ => none) else (match bltF C.calm x, compR n C (a :: as) with
            | some g, some f => some (tryE C (a :: as) (eFn g f))
            | _, _ => compEx C (compE n C) (.Call (.Name x p1) (a :: as) [] p2))
        | _ => none) else none
    | .Call (.Attribute o m ap) [k, x] [] pos => if m = "get" ∧ notSup o = true ∧ (ap.endLine == pos.line) = true ∧ notStar k = true ∧ notStar x = true then (match compE n C o, compE n C k, compE n C x with
      | some fo, some fk, some fx => some (eGet fo fk fx)
      | _, _, _ => none) else none
    | .ListComp elt [⟨tg, iter, ifs, 0⟩] scope _ => (compLc n C elt tg iter ifs scope).map (tryF C iter)
    | e => compEx C (compE n C) e
noncomputable def compLc : Nat → CC → Expr → Expr → Expr → List Expr → Scope → Option FE
  | 0, _, _, _, _, _, _ => none
  | n + 1, C, elt, tg, iter, ifs, scope => if C.calm = true ∧ notSet iter = true ∧ blkC C.N C.sc scope (ownOf C.N scope) = true then
        (match compIr n C tg iter, compG (C.inner scope) (others C.N.length ((ownOf C.N scope).map (·.2))) 3 tg, compIfs n (C.inner scope) ifs, compE n (C.inner scope) elt with
        | some fi, some b, some g, some fe => some (eLc fi b g fe ((ownOf C.N scope).map (·.2)))
        | _, _, _, _ => none) else none
noncomputable def compIs : Nat → CC → Expr → Expr → Option FE
  | 0, _, _, _ => none
  | n + 1, C, a, ce => match ce with
    | .Name y _ => if plainN y = true ∧ glB C.sc y = true then (match C.exn with
      | some (a0, d0, c) => (match C.isn c y, compE n C a with
        | some b, some f => some (eIsX a0 d0 (some b) f)
        | _, _ => none)
      | none => (match C.glb y, bootBuiltins y with
        | .blt, some (.type T) => (compE n C a).map fun f => tryE C [a] (eUn (dIsT T) f)
        | _, _ => none)) else none
    | .Tuple es _ _ => (match C.exn with
      | some (a0, d0, c) => (match isnAny C c es, compE n C a with
        | some b, some f => if 1 ≤ es.length ∧ es.length ≤ 60 then some (eIsX a0 d0 (some b) f) else none
        | _, _ => none)
      | none => none)
    | _ => none
noncomputable def compIfs : Nat → CC → List Expr → Option FB
  | 0, _, _ => none
  | n + 1, C, ifs => match ifs with
    | [] => some bYes
    | [c] => compT n C c
    | _ => none
noncomputable def compBo : Nat → CC → BoolOp → List Expr → Option FE
  | 0, _, _, _ => none
  | n + 1, C, op, vs => match vs with
    | [a] => compE n C a
    | a :: b :: rest => (match op, compE n C a, compBo n C op (b :: rest) with
      | .And, some fa, some fb => some (eAnd (bE fa) fb)
      | .Or, some fa, some fb => some (eOr (bE fa) fb)
      | _, _, _ => none)
    | _ => none
noncomputable def compT : Nat → CC → Expr → Option FB
  | 0, _, _ => none
  | n + 1, C, e => match e with
    | .BoolOp op vs _ => compW n C op vs
    | .UnaryOp .Not a _ => (compT n C a).map bNot
    | .Compare a [.In] [b] _ => (match compE n C a, compE n C b with
      | some fa, some fb => if notSet b = true then some (bE (tryE C [a, b] (eIn false fa fb))) else none
      | _, _ => none)
    | .Compare a [.NotIn] [b] _ => (match compE n C a, compE n C b with
      | some fa, some fb => if notSet b = true then some (bE (tryE C [a, b] (eIn true fa fb))) else none
      | _, _ => none)
    | .Compare a [op] [b] _ => (match cmpF op, compE n C a, compE n C b with
      | some g, some fa, some fb => if notSet b = true then some (bE (tryE C [a, b] (eOp g fa fb))) else none
      | _, _, _ => none)
    | .Compare a [op, op'] [b, c] _ => (match cmpF op, cmpF op', compE n C a, compE n C b, compE n C c with
      | some g, some g', some fa, some fb, some fc => if notSet c = true then some (bE (eChain g g' fa fb fc)) else none
      | _, _, _, _, _ => none)
    | e => if plainT e = true then (compE n C e).map bE else none
noncomputable def compW : Nat → CC → BoolOp → List Expr → Option FB
  | 0, _, _, _ => none
  | n + 1, C, op, vs => match op, vs with
    | _, [a] => compT n C a
    | .And, a :: b :: rest => (match compT n C a, compW n C .And (b :: rest) with
      | some g, some h => some (bAnd g h)
      | _, _ => none)
    | .Or, a :: b :: rest => (match compT n C a, compW n C .Or (b :: rest) with
      | some g, some h => some (bOr g h)
      | _, _ => none)
    | _, _ => none
noncomputable def compO : Nat → CC → Option Expr → Option FO
  | 0, _, _ => none
  | n + 1, C, e => match e with
    | none => some oNo
    | some e => (compE n C e).map oSo
noncomputable def compA : Nat → CC → List Expr → Option FA
  | 0, _, _ => none
  | n + 1, C, es => match es with
    | [] => some aNil
    | e :: es => (match compE n C e, compA n C es with
      | some f, some fr => some (aCons f fr)
      | _, _ => none)
noncomputable def compR : Nat → CC → List Expr → Option FA
  | 0, _, _ => none
  | n + 1, C, es => match es with
    | [] => some aNil
    | e :: es => (match compE n C e, compR n C es with
      | some f, some fr => some (rCons f fr)
      | _, _ => none)
noncomputable def compOs : Nat → CC → List Expr → Option FOs
  | 0, _, _ => none
  | n + 1, C, es => match es with
    | [] => some oNil
    | e :: es => (match compE n C e, compOs n C es with
      | some f, some fr => some (oCons f fr)
      | _, _ => none)
noncomputable def compI : Nat → CC → Expr → Expr → Option FI
  | 0, _, _, _ => none
  | n + 1, C, tg, e => match e with
    | .Call (.Name x p) as [] pos => if x = "range" then (match C.glb x, compR n C as with
        | .blt, some fa => if glB C.sc x = true ∧ as.all notStar = true ∧ 1 ≤ as.length ∧ as.length ≤ 3 then some (iRng fa) else none
        | _, _ => none) else
      if x = "enumerate" then (match tg, as, C.glb x, compA n C as with
        | .Tuple _ _ _, [_], .blt, some fa => if glB C.sc x = true ∧ as.all notStar = true then some (iEnA fa) else none
        | _, _, _, _ => none) else
      if x = "zip" then (match tg, as, C.glb x, compA n C as with
        | .Tuple _ _ _, [_, _], .blt, some fa => if glB C.sc x = true ∧ as.all notStar = true then some (iZpA fa) else none
        | _, _, _, _ => none) else
      if x = "reversed" then (match as, C.glb x with
        | [a], .blt => if glB C.sc x = true ∧ as.all notStar = true then (compE n C a).map fun f => iRevD (dE f) else none
        | _, _ => none) else (compE n C (.Call (.Name x p) as [] pos)).map fun f => iSeq (dE f)
    | e => (compE n C e).map fun f => iSeq (dE f)
noncomputable def compIr : Nat → CC → Expr → Expr → Option FI
  | 0, _, _, _ => none
  | n + 1, C, tg, e => match e with
    | .Call (.Name x p) as [] pos => compI n C tg (.Call (.Name x p) as [] pos)
    | e => (compE n C e).map fun f => iSeq (rdE f)
end
end FL
namespace FL
open PySem L2
theorem GkOk.blk {X : Cx} {x : Str} {k : Gk} {s : Shared} {H : Hp} {scope : Scope} {cenv : PySem.Env} {fp : List Addr} (h : GkOk X x k) : GkOk (X.blk s H scope cenv fp) x k := by
  cases k <;> exact h
theorem ClsN.blk {X : Cx} {x : Str} {cv : V} {cu : Value} {s : Shared} {H : Hp} {scope : Scope} {cenv : PySem.Env} {fp : List Addr} (h : ClsN X x cv cu) : ClsN (X.blk s H scope cenv fp) x cv cu := by
  cases h with
  | own C h => exact .own C h
  | blt T h hb hn => exact .blt T h hb hn
theorem Fits.inner {C : CC} {X : Cx} {scope : Scope} {own : List (Str × Nat)} (F : Fits C X) (ok : BlkOk X.N X.env.scope scope own) (s : Shared) (H : Hp) (Ca : Addr) (cl : List (Str × Addr)) (fp : List Addr) : Fits (C.inner scope) (X.blk s H scope (compEnvC scope cl Ca X.env) fp) := by
  have es : (compEnvC scope cl Ca X.env).scope = relS scope C.sc := by rw [← F.sc]; rfl
  refine ⟨F.N, es, ?_, F.nd, F.calm, F.un, fun x h => ?_, fun x => (F.glb x).blk, fun a d c h => (by cases h), fun c x b h => ?_, fun c x b h => ?_⟩
  · show (compEnvC scope cl Ca X.env).scope.kind = .function
    rw [es]; exact ok.kind
  · have h : locB scope x = true := h
    have e2 : (X.blk s H scope (compEnvC scope cl Ca X.env) fp).env.scope = relS scope C.sc := es
    rw [e2]
    rcases locB_ok h with k | k
    · have z : (relS scope C.sc).names.lookup x = some .local := lookup_relS_keep (by decide) k
      exact ⟨.inl z, .inr z⟩
    · have z : (relS scope C.sc).names.lookup x = some .cell := lookup_relS_keep (by decide) k
      refine ⟨.inr z, .inl ?_⟩
      show (scope.names.lookup x == some .cell) = true
      rw [k]; rfl
  · obtain ⟨C1, cv, cu, h1, h2, h3, h4⟩ := F.isn c x b h
    exact ⟨C1, cv, cu, h1, h2, h3.blk, h4⟩
  · obtain ⟨cls, cv, cu, h1, h2, h3⟩ := F.sub c x b h
    exact ⟨cls, cv, cu, h1, h2.blk, h3⟩
theorem compName_ok {C : CC} {X : Cx} {W : WX} {x : Str} {f : FE} {pos : Pos} (F : Fits C X) (h : compName C x = some f) : EE X W (.Name x pos) f := by
  unfold compName at h
  split at h
  · next hp =>
    obtain ⟨k1, k2, k3⟩ := plainN_ok hp
    split at h
    · next hv =>
      split at h
      · next i hi =>
        cases h
        exact ee_var i (pe_var (by rw [F.N]; exact slotOf_ok hi) (by rw [F.sc]; exact visB_ok hv) k1 k2)
      · cases h
    · split at h
      · next hg =>
        split at h
        · next d hd =>
          cases h
          have z := F.glb x
          rw [hd] at z
          obtain ⟨v, u, h1, h2, h3⟩ := z
          exact ee_k (pe_glob (glB_ok (by rw [F.sc]; exact hg)) h1 h2 k1) h3
        · cases h
      · cases h
  · cases h
theorem ee_ixC {C : CC} {X : Cx} {W : WX} {a b : Expr} {fa fb : FE} {pos : Pos} (hu : X.A.units + 1 < cLine) (ha : EE X W a fa) (hb : EE X W b fb) (hs : PlainIx b) : EE X W (.Subscript a b pos) (eIxC C a b fa fb) := by
  unfold eIxC
  cases z : ixLit C a b with
  | none => exact ee_ix2 hu ha hb hs
  | some k =>
    unfold ixLit at z
    split at z
    · split at z
      · cases z; exact ee_ixO ha
      · cases z
    · cases z
theorem compG1_ok {C : CC} {X : Cx} {kp : List Nat} {e : Expr} {b : FG} (F : Fits C X) (h : compG1 C kp e = some b) : GG X kp e b := by
  unfold compG1 at h
  split at h
  · next x p =>
    split at h
    · next hl =>
      split at h
      · next i hi =>
        split at h
        · cases h
        · next hk =>
          cases h
          obtain ⟨h1, h2⟩ := F.fn x hl
          exact gg_name F.nd (by rw [F.N]; exact slotOf_ok hi) h1 hk h2
      · cases h
    · cases h
  · cases h
theorem each_cons {e : Expr} {es : List Expr} {env : PySem.Env} (h : notStar e = true) : assignEach (e :: es) env = (false, assign e env) :: assignEach es env := by
  cases e <;> first | rfl | cases h
theorem each_len : ∀ {es : List Expr} {env : PySem.Env}, es.all notStar = true → (assignEach es env).length = es.length
  | [], _, _ => rfl
  | e :: es, env, h => by
    rw [List.all_cons, Bool.and_eq_true] at h
    rw [each_cons h.1, List.length_cons, each_len h.2, List.length_cons]
theorem each_none : ∀ {es : List Expr} {env : PySem.Env}, es.all notStar = true → (assignEach es env).findIdx? (·.1) = none
  | [], _, _ => rfl
  | e :: es, env, h => by
    rw [List.all_cons, Bool.and_eq_true] at h
    rw [each_cons h.1, List.findIdx?_cons, each_none h.2]
    rfl
theorem compGs_ok {X : Cx} {kp : List Nat} {f : Expr → Option FG} (hf : ∀ e b, f e = some b → GG X kp e b) : ∀ {es : List Expr} {bs : List D → Env → Option Env}, es.all notStar = true → compGs f es = some bs → GGs X kp es bs
  | [], bs, _, h => by unfold compGs at h; cases h; exact ggs_nil
  | e :: es, bs, hs, h => by
    rw [List.all_cons, Bool.and_eq_true] at hs
    unfold compGs at h
    split at h
    · next b bs' h1 h2 =>
      cases h
      exact ggs_cons (hf e b h1) (compGs_ok hf hs.2 h2) (by rw [each_cons hs.1]; rfl)
    · cases h
theorem compG_ok {C : CC} {X : Cx} {kp : List Nat} (F : Fits C X) (hc : X.calm = true) : ∀ {n : Nat} {e : Expr} {b : FG}, compG C kp n e = some b → GG X kp e b
  | 0, e, b, h => by unfold compG at h; exact compG1_ok F h
  | n + 1, e, b, h => by
    unfold compG at h
    split at h
    · next es k p heq =>
      cases heq
      split at h
      · next hs =>
        cases z : compGs (compG C kp n) es with
        | none => rw [z] at h; cases h
        | some bs =>
          rw [z] at h
          cases h
          exact gg_tup hc (compGs_ok (fun e b h => compG_ok F hc h) hs z) (each_len hs) (each_none hs)
      · cases h
    · exact compG1_ok F h
def ttOf (K : PySem.W.Frag) (mg : Str → Option Value) (ifs : List Expr) (g : FB) : TT := match ifs with
  | [] => tYes
  | _ => tB (tG K mg Wn RB g)
theorem PEimpL {X : Cx} {e : Expr} {t t' : TE} (h : PE X e t) (i : ∀ σ H Q, X.N.length = σ.length → t' σ H Q → t σ H Q) : PE X e t' := ⟨fun pins s σ H Q I q => h.run pins s σ H Q I (i σ H Q I.len.symm q)⟩
theorem compIfs_nil {n : Nat} {C : CC} {g : FB} (h : compIfs n C [] = some g) : g = bYes := by
  cases n with
  | zero => unfold compIfs at h; cases h
  | succ n => unfold compIfs at h; cases h; rfl
structure LcP (X : Cx) (elt tg iter : Expr) (ifs : List Expr) (scope : Scope) (own : List (Str × Nat)) (wi : TI) (g : TG) (tt : TT) (te : TE) : Prop where
  hc : X.calm = true
  hi : PI X tg iter wi
  ok : BlkOk X.N X.env.scope scope own
  hg : ∀ (s : Shared) (H : Hp) (C : Addr) (cl : List (Str × Addr)) (fp : List Addr), PG (X.blk s H scope (compEnvC scope cl C X.env) fp) tg g
  ht : ∀ (s : Shared) (H : Hp) (C : Addr) (cl : List (Str × Addr)) (fp : List Addr), PTs (X.blk s H scope (compEnvC scope cl C X.env) fp) ifs tt
  he : ∀ (s : Shared) (H : Hp) (C : Addr) (cl : List (Str × Addr)) (fp : List Addr), PE (X.blk s H scope (compEnvC scope cl C X.env) fp) elt te
  hs : ∀ x, foldedSetIterable iter X.env x = pure x
theorem isnAny_ok {C : CC} {X : Cx} {cls : Value} {c : Str} (F : Fits C X) (hc : X.mg c = some cls) : ∀ {es : List Expr} {b : Bool}, isnAny C c es = some b → ∃ cs ws, PA X es (tCs cs) ∧ Paired ClsV cs ws ∧ cs.length = es.length ∧ PySem.W.kitAny X.K cls ws = some b ∧ (1 ≤ es.length → ∃ C1, cls = .ref C1 ∧ ExcC X.K C1)
  | [], b, h => by
    cases h
    exact ⟨[], [], pa_nil, .nil, rfl, rfl, fun z => by cases z⟩
  | e :: es, b, h => by
    unfold isnAny at h
    split at h
    · next he => cases he
    · next y pt es2 he =>
      cases he
      split at h
      · next hy =>
        split at h
        · next b1 r1 h1 h2 =>
          cases h
          obtain ⟨k1, k2, k3⟩ := plainN_ok hy.1
          have hgy : Gl X y := glB_ok (by rw [F.sc]; exact hy.2)
          obtain ⟨cs, ws, i1, i2, i3, i4, _⟩ := isnAny_ok F hc h2
          obtain ⟨C2, cv, cu, j1, j2, j3, j4⟩ := F.isn c y b1 h1
          have e2 : cls = .ref C2 := Option.some.inj (hc.symm.trans j1)
          subst e2
          have hk : PySem.W.kitAny X.K (.ref C2) (cu :: ws) = some (b1 || r1) := kitAny_cons j4 (fun z => by rw [z]; exact i4) (fun z => by rw [z]; rfl)
          cases j3 with
          | own C3 hm2 => exact ⟨.ref C3 :: cs, _, pa_cons (pe_glob (v := .ref C3) hgy hm2 rfl k1) i1, .cons (.own C3) i2, congrArg (· + 1) i3, hk, fun _ => ⟨C2, rfl, j2⟩⟩
          | blt T2 hm2 hb2 hn2 => exact ⟨.ty T2 :: cs, _, pa_cons (pe_bltn (v := .ty T2) hgy hm2 hb2 rfl hn2 k1) i1, .cons (.ty T2) i2, congrArg (· + 1) i3, hk, fun _ => ⟨C2, rfl, j2⟩⟩
        · cases h
      · cases h
    · cases h
theorem tG_tryF {C : CC} {iter : Expr} {K : PySem.W.Frag} {mg : Str → Option Value} {W : WX} {fe : FE} {σ : L2.St} {H : Hp} {Q : V → Hp → Prop} (h : tG K mg W (RO K) (tryF C iter fe) σ H Q) : tG K mg W (RO K) fe σ H Q := by
  unfold tryF at h
  split at h
  · exact tG_try h
  · exact h
theorem et_tryE {C : CC} {X : Cx} {W : WX} {es : List Expr} {e : Expr} {fe : FE} (h : ET X W e (bE fe)) : ET X W e (bE (tryE C es fe)) := by
  unfold tryE
  split
  · exact et_try h
  · exact h
structure Sound (n : Nat) : Prop where
  E : ∀ {C : CC} {X : Cx} {W : WX} {e : Expr} {f : FE}, Fits C X → Takes X W → compE n C e = some f → EE X W e f
  Is : ∀ {C : CC} {X : Cx} {W : WX} {a y : Expr} {f : FE} {p pos : Pos}, Fits C X → Takes X W → notStar a = true → Gl X "isinstance" → X.mg "isinstance" = none → compIs n C a y = some f → EE X W (.Call (.Name "isinstance" p) [a, y] [] pos) f
  Ifs : ∀ {C : CC} {X : Cx} {ifs : List Expr} {g : FB}, Fits C X → Takes X Wn → compIfs n C ifs = some g → PTs X ifs (ttOf X.K X.mg ifs g) ∧ (ifs = [] → g = bYes)
  Bo : ∀ {C : CC} {X : Cx} {W : WX} {op : BoolOp} {vs : List Expr} {f : FE} {pos : Pos}, Fits C X → Takes X W → compBo n C op vs = some f → EE X W (.BoolOp op vs pos) f
  T : ∀ {C : CC} {X : Cx} {W : WX} {e : Expr} {f : FB}, Fits C X → Takes X W → compT n C e = some f → ET X W e f
  Wd : ∀ {C : CC} {X : Cx} {W : WX} {op : BoolOp} {vs : List Expr} {f : FB} {pos : Pos}, Fits C X → Takes X W → compW n C op vs = some f → EW X W (.BoolOp op vs pos) f
  Lc : ∀ {C : CC} {X : Cx} {W : WX} {elt tg iter : Expr} {ifs : List Expr} {scope : Scope} {f : FE}, Fits C X → Takes X W → compLc n C elt tg iter ifs scope = some f →
    ∃ wi g tt te, LcP X elt tg iter ifs scope (ownOf C.N scope) wi g tt te ∧ ∀ σ H Q, X.N.length = σ.length → tG X.K X.mg W (RO X.K) f σ H Q → tLc wi g tt te ((ownOf C.N scope).map (·.2)) σ H Q
  O : ∀ {C : CC} {X : Cx} {W : WX} {e : Option Expr} {f : FO}, Fits C X → Takes X W → compO n C e = some f → EO X W e f
  A : ∀ {C : CC} {X : Cx} {W : WX} {es : List Expr} {f : FA}, Fits C X → Takes X W → es.all notStar = true → compA n C es = some f → EA X W es f
  R : ∀ {C : CC} {X : Cx} {W : WX} {es : List Expr} {f : FA}, Fits C X → Takes X W → es.all notStar = true → compR n C es = some f → ER X W es f ∧ LenA es.length f
  Os : ∀ {C : CC} {X : Cx} {W : WX} {es : List Expr} {f : FOs}, Fits C X → Takes X W → es.all notStar = true → compOs n C es = some f → EOs X W es f ∧ LenO es.length f
  I : ∀ {C : CC} {X : Cx} {W : WX} {tg e : Expr} {f : FI}, Fits C X → Takes X W → compI n C tg e = some f → II X W tg e f
  Ir : ∀ {C : CC} {X : Cx} {W : WX} {tg e : Expr} {f : FI}, Fits C X → Takes X W → compIr n C tg e = some f → IR X W tg e f
theorem sound0 : Sound 0 := by
  constructor
  · intro C X W e f F T h; unfold compE at h; cases h
  · intro C X W a y f p pos F T _ _ _ h; unfold compIs at h; cases h
  · intro C X ifs g F T h; unfold compIfs at h; cases h
  · intro C X W op vs f pos F T h; unfold compBo at h; cases h
  · intro C X W e f F T h; unfold compT at h; cases h
  · intro C X W op vs f pos F T h; unfold compW at h; cases h
  · intro C X W elt tg iter ifs scope f F T h; unfold compLc at h; cases h
  · intro C X W e f F T h; unfold compO at h; cases h
  · intro C X W es f F T _ h; unfold compA at h; cases h
  · intro C X W es f F T _ h; unfold compR at h; cases h
  · intro C X W es f F T _ h; unfold compOs at h; cases h
  · intro C X W tg e f F T h; unfold compI at h; cases h
  · intro C X W tg e f F T h; unfold compIr at h; cases h
section
variable {n : Nat} (S : Sound n)
include S
theorem sO {C : CC} {X : Cx} {W : WX} {e : Option Expr} {f : FO} (F : Fits C X) (T : Takes X W) (h : compO (n + 1) C e = some f) : EO X W e f := by
  unfold compO at h
  split at h
  · cases h; exact eo_none
  · next e =>
    cases z : compE n C e with
    | none => rw [z] at h; cases h
    | some fe => rw [z] at h; cases h; exact eo_some (S.E F T z)
theorem sA {C : CC} {X : Cx} {W : WX} {es : List Expr} {f : FA} (F : Fits C X) (T : Takes X W) (hs : es.all notStar = true) (h : compA (n + 1) C es = some f) : EA X W es f := by
  unfold compA at h
  split at h
  · cases h; exact ea_nil
  · next e es =>
    rw [List.all_cons, Bool.and_eq_true] at hs
    split at h
    · next fe fr h1 h2 => cases h; exact ea_cons (S.E F T h1) (S.A F T hs.2 h2) (star_cons hs.1)
    · cases h
theorem sR {C : CC} {X : Cx} {W : WX} {es : List Expr} {f : FA} (F : Fits C X) (T : Takes X W) (hs : es.all notStar = true) (h : compR (n + 1) C es = some f) : ER X W es f ∧ LenA es.length f := by
  unfold compR at h
  split at h
  · cases h; exact ⟨er_nil, LenA.nil⟩
  · next e es =>
    rw [List.all_cons, Bool.and_eq_true] at hs
    split at h
    · next fe fr h1 h2 =>
      cases h
      obtain ⟨k1, k2⟩ := S.R F T hs.2 h2
      exact ⟨er_cons (S.E F T h1) k1 (star_cons hs.1), k2.cons⟩
    · cases h
theorem sOs {C : CC} {X : Cx} {W : WX} {es : List Expr} {f : FOs} (F : Fits C X) (T : Takes X W) (hs : es.all notStar = true) (h : compOs (n + 1) C es = some f) : EOs X W es f ∧ LenO es.length f := by
  unfold compOs at h
  split at h
  · cases h; exact ⟨eos_nil, LenO.nil⟩
  · next e es =>
    rw [List.all_cons, Bool.and_eq_true] at hs
    split at h
    · next fe fr h1 h2 =>
      cases h
      obtain ⟨k1, k2⟩ := S.Os F T hs.2 h2
      exact ⟨eos_cons (S.E F T h1) k1 (star_cons hs.1), k2.cons⟩
    · cases h
theorem sBo {C : CC} {X : Cx} {W : WX} {op : BoolOp} {vs : List Expr} {f : FE} {pos : Pos} (F : Fits C X) (T : Takes X W) (h : compBo (n + 1) C op vs = some f) : EE X W (.BoolOp op vs pos) f := by
  unfold compBo at h
  split at h
  · exact ee_one (S.E F T h)
  · split at h
    · next h1 h2 => cases h; exact ee_and (eb_of (S.E F T h1)) (S.Bo F T h2)
    · next h1 h2 => cases h; exact ee_or (eb_of (S.E F T h1)) (S.Bo F T h2)
    · cases h
  · cases h
theorem sW {C : CC} {X : Cx} {W : WX} {op : BoolOp} {vs : List Expr} {f : FB} {pos : Pos} (F : Fits C X) (T : Takes X W) (h : compW (n + 1) C op vs = some f) : EW X W (.BoolOp op vs pos) f := by
  unfold compW at h
  split at h
  · cases op with
    | And => exact ew_and1 (S.T F T h)
    | Or => exact ew_or1 (S.T F T h)
  · split at h
    · next h1 h2 => cases h; exact ew_and (S.T F T h1) (S.Wd F T h2)
    · cases h
  · split at h
    · next h1 h2 => cases h; exact ew_or (S.T F T h1) (S.Wd F T h2)
    · cases h
  · cases h
theorem sIfs {C : CC} {X : Cx} {ifs : List Expr} {g : FB} (F : Fits C X) (T : Takes X Wn) (h : compIfs (n + 1) C ifs = some g) : PTs X ifs (ttOf X.K X.mg ifs g) ∧ (ifs = [] → g = bYes) := by
  unfold compIfs at h
  split at h
  · cases h; exact ⟨pts_nil, fun _ => rfl⟩
  · exact ⟨pts_one (S.T F T h), fun e => by cases e⟩
  · cases h
theorem sI {C : CC} {X : Cx} {W : WX} {tg e : Expr} {f : FI} (F : Fits C X) (T : Takes X W) (h : compI (n + 1) C tg e = some f) : II X W tg e f := by
  unfold compI at h
  split at h
  · next x p as pos =>
    split at h
    · next hx =>
      subst hx
      split at h
      · next fa h1 h2 =>
        split at h
        · next hc =>
          cases h
          obtain ⟨c1, c2, c3, c4⟩ := hc
          have hm := F.glb "range"
          rw [h1] at hm
          have hg : Gl X "range" := glB_ok (by rw [F.sc]; exact c1)
          obtain ⟨r1, r2⟩ := S.R F T c2 h2
          match as, c2, c3, c4, r1, r2 with
          | [a], c2, _, _, r1, r2 =>
            simp only [List.all_cons, List.all_nil, Bool.and_true] at c2
            exact it_rng1 hg hm r1 r2 (by rw [star_cons c2]; rfl)
          | [a, b], c2, _, _, r1, r2 =>
            simp only [List.all_cons, List.all_nil, Bool.and_true, Bool.and_eq_true] at c2
            exact it_rng2 hg hm r1 r2 (by rw [star_cons c2.1, star_cons c2.2]; rfl) (by rw [star_cons c2.2]; rfl)
          | [a, b, c], c2, _, _, r1, r2 =>
            have c2' := c2
            rw [List.all_cons, Bool.and_eq_true] at c2
            exact it_rng3 hg hm r1 r2 (star_cons c2.1) (star_plain c2.2)
          | [], _, c3, _, _, _ => exact absurd c3 (by simp)
          | _ :: _ :: _ :: _ :: _, _, _, c4, _, _ => simp only [List.length_cons] at c4; omega
        · cases h
      · cases h
    · split at h
      · next hx =>
        subst hx
        split at h
        · next es k tp a fa h1 h2 =>
          split at h
          · next hc =>
            cases h
            obtain ⟨c1, c2⟩ := hc
            have hm := F.glb "enumerate"
            rw [h1] at hm
            have hg : Gl X "enumerate" := glB_ok (by rw [F.sc]; exact c1)
            have c3 : notStar a = true := by simpa using c2
            exact it_enum hg hm (S.A F T c2 h2) (by rw [star_cons c3]; rfl)
          · cases h
        · cases h
      · split at h
        · next hx =>
          subst hx
          split at h
          · next es k tp a b fa h1 h2 =>
            split at h
            · next hc =>
              cases h
              obtain ⟨c1, c2⟩ := hc
              have hm := F.glb "zip"
              rw [h1] at hm
              have hg : Gl X "zip" := glB_ok (by rw [F.sc]; exact c1)
              have c2' := c2
              rw [List.all_cons, Bool.and_eq_true] at c2
              exact it_zip hg hm (S.A F T c2' h2) (star_cons c2.1) (star_plain c2.2)
            · cases h
          · cases h
        · split at h
          · next hx =>
            subst hx
            split at h
            · next a h1 =>
              split at h
              · next hc =>
                obtain ⟨c1, c2⟩ := hc
                have hm := F.glb "reversed"
                rw [h1] at hm
                have hg : Gl X "reversed" := glB_ok (by rw [F.sc]; exact c1)
                have c3 : notStar a = true := by simpa using c2
                cases z : compE n C a with
                | none => rw [z] at h; cases h
                | some fe => rw [z] at h; cases h; exact it_rev hg hm (S.E F T z) (star_cons c3)
              · cases h
            · cases h
          · cases z : compE n C (.Call (.Name x p) as [] pos) with
            | none => rw [z] at h; cases h
            | some fe => rw [z] at h; cases h; exact it_seq (S.E F T z)
  · cases z : compE n C e with
    | none => rw [z] at h; cases h
    | some fe => rw [z] at h; cases h; exact it_seq (S.E F T z)
theorem sIr {C : CC} {X : Cx} {W : WX} {tg e : Expr} {f : FI} (F : Fits C X) (T : Takes X W) (h : compIr (n + 1) C tg e = some f) : IR X W tg e f := by
  unfold compIr at h
  split at h
  · exact (S.I F T h).ir
  · cases z : compE n C e with
    | none => rw [z] at h; cases h
    | some fe => rw [z] at h; cases h; exact ir_seq (S.E F T z)
theorem sT {C : CC} {X : Cx} {W : WX} {e : Expr} {f : FB} (F : Fits C X) (T : Takes X W) (h : compT (n + 1) C e = some f) : ET X W e f := by
  unfold compT at h
  split at h
  · exact et_w (S.Wd F T h)
  · next a p =>
    cases z : compT n C a with
    | none => rw [z] at h; cases h
    | some g => rw [z] at h; cases h; exact et_not (S.T F T z)
  · split at h
    · next h1 h2 =>
      split at h
      · next hs => cases h; exact et_tryE (et_in (have := F.un; by omega) (S.E F T h1) (S.E F T h2) (set_marks hs))
      · cases h
    · cases h
  · split at h
    · next h1 h2 =>
      split at h
      · next hs => cases h; exact et_tryE (et_notIn (have := F.un; by omega) (S.E F T h1) (S.E F T h2) (set_marks hs))
      · cases h
    · cases h
  · split at h
    · next h1 h2 h3 =>
      split at h
      · next hs =>
        cases h
        obtain ⟨r, o1, o2⟩ := cmpF_ok (X := X) F.un h1
        exact et_tryE (et_cmp o1 o2 (S.E F T h2) (S.E F T h3) (set_marks hs))
      · cases h
    · cases h
  · split at h
    · next h1 h1' h2 h3 h4 =>
      split at h
      · next hs =>
        cases h
        obtain ⟨r, o1, o2⟩ := cmpF_ok (X := X) F.un h1
        obtain ⟨r', o1', o2'⟩ := cmpF_ok (X := X) F.un h1'
        exact et_chain o1 o2 o1' o2' (S.E F T h2) (S.E F T h3) (S.E F T h4) (set_last hs)
      · cases h
    · cases h
  · split at h
    · next hp =>
      cases z : compE n C e with
      | none => rw [z] at h; cases h
      | some fe => rw [z] at h; cases h; exact et_of (S.E F T z) (plain_true hp)
    · cases h
theorem sIs {C : CC} {X : Cx} {W : WX} {a y : Expr} {f : FE} {p pos : Pos} (F : Fits C X) (T : Takes X W) (ha : notStar a = true) (hg : Gl X "isinstance") (hm : X.mg "isinstance" = none) (h : compIs (n + 1) C a y = some f) : EE X W (.Call (.Name "isinstance" p) [a, y] [] pos) f := by
  unfold compIs at h
  split at h
  · next y pt =>
    split at h
    · next hy =>
      obtain ⟨hy1, hy2⟩ := hy
      obtain ⟨k1, k2, k3⟩ := plainN_ok hy1
      have hgy : Gl X y := glB_ok (by rw [F.sc]; exact hy2)
      split at h
      · next a0 d0 c hx =>
        split at h
        · next b fe hb z =>
          cases h
          obtain ⟨X0, oe, pn, cls, rfl, hz, hfl, hmc⟩ := F.exn a0 d0 c hx
          obtain ⟨C1, cv, cu, h1, h2, h3, h4⟩ := F.isn c y b hb
          have e1 : cls = .ref C1 := Option.some.inj (hmc.symm.trans h1)
          subst e1
          have hE := S.E F T z
          show EE _ _ _ (eIsE a0 d0 (some b) fe)
          cases h3 with
          | own C2 hm2 => exact ee_isE h2 hz hfl hE hg hm PyProof.Rows.boot_isinstance (pe_glob (v := .ref C2) hgy hm2 rfl k1) (fun u r => (show u = .ref C2 from r)) (fun k e => by cases e; exact h4) (by decide) (by decide) (star_cons ha) rfl rfl
          | blt T2 hm2 hb2 hn2 => exact ee_isE h2 hz hfl hE hg hm PyProof.Rows.boot_isinstance (pe_bltn (v := .ty T2) hgy hm2 hb2 rfl hn2 k1) (fun u r => (show u = .type T2 from r)) (fun k e => by cases e; exact h4) (by decide) (by decide) (star_cons ha) rfl rfl
        · cases h
      · split at h
        · next hb hbb =>
          cases z : compE n C a with
          | none => rw [z] at h; cases h
          | some fe =>
            rw [z] at h
            cases h
            have hmy := F.glb y
            rw [hb] at hmy
            exact ee_tryE (ee_isT (S.E F T z) hg hm PyProof.Rows.boot_isinstance hgy hmy hbb (by decide) (by decide) k3 k1 (star_cons ha) rfl rfl)
        · cases h
    · cases h
  · next es k0 pt =>
    split at h
    · next a0 d0 c hx =>
      split at h
      · next b fe hb z =>
        split at h
        · next hlen =>
          cases h
          obtain ⟨X0, oe, pn, cls, rfl, hz, hfl, hmc⟩ := F.exn a0 d0 c hx
          obtain ⟨cs, ws, i1, i2, i3, i4, i5⟩ := isnAny_ok F hmc hb
          obtain ⟨C1, e1, hE1⟩ := i5 hlen.1
          subst e1
          have hl : cs.length ≤ sizeLine := by
            have : (60 : Nat) ≤ sizeLine := by decide
            omega
          exact ee_isM hE1 hz hfl (S.E F T z) hg hm PyProof.Rows.boot_isinstance i1 i2 hl (fun k e => by cases e; exact i4) (by decide) (by decide) (star_cons ha) rfl rfl
        · cases h
      · cases h
    · cases h
  · cases h
theorem lc_pre {C : CC} {X : Cx} {W : WX} {elt tg iter : Expr} {ifs : List Expr} {scope : Scope} {f : FE} (F : Fits C X) (T : Takes X W) (h : compLc (n + 1) C elt tg iter ifs scope = some f) :
    ∃ wi g tt te, LcP X elt tg iter ifs scope (ownOf C.N scope) wi g tt te ∧ ∀ σ H Q, X.N.length = σ.length → tG X.K X.mg W (RO X.K) f σ H Q → tLc wi g tt te ((ownOf C.N scope).map (·.2)) σ H Q := by
  unfold compLc at h
  split at h
  · next hc =>
    obtain ⟨c1, c2, c3⟩ := hc
    split at h
    · next fi b g fe h1 h2 h3 h4 =>
      cases h
      have hcalm := F.calm c1
      have ok : BlkOk X.N X.env.scope scope (ownOf C.N scope) := by rw [F.N, F.sc]; exact blkOk_by c3
      have fit := fun s H Ca cl fp => F.inner ok s H Ca cl fp
      have tk0 : ∀ (s : Shared) (H : Hp) (Ca : Addr) (cl : List (Str × Addr)) (fp : List Addr), Takes (X.blk s H scope (compEnvC scope cl Ca X.env) fp) Wn := fun _ _ _ _ _ => takes0
      have ht1 : ∀ (s : Shared) (H : Hp) (Ca : Addr) (cl : List (Str × Addr)) (fp : List Addr), PTs (X.blk s H scope (compEnvC scope cl Ca X.env) fp) ifs (ttOf X.K X.mg ifs g) := fun s H Ca cl fp => (S.Ifs (fit s H Ca cl fp) (tk0 s H Ca cl fp) h3).1
      have ht2 : TtOk X.K X.mg g (ttOf X.K X.mg ifs g) := by
        cases ifs with
        | nil =>
          have eg : g = bYes := compIfs_nil h3
          subst eg
          exact @ttYes X.K X.mg
        | cons _ _ => exact ttOne
      exact ⟨_, _, _, _, ⟨hcalm, S.Ir F T h1, ok, fun s H Ca cl fp => compG_ok (fit s H Ca cl fp) hcalm h2, ht1, fun s H Ca cl fp => S.E (fit s H Ca cl fp) (tk0 s H Ca cl fp) h4, set_fold c2⟩, fun σ H Q hl q => lc_read (by rw [← F.N]; exact hl) ht2 q⟩
    · cases h
  · cases h
theorem sE {C : CC} {X : Cx} {W : WX} {e : Expr} {f : FE} (F : Fits C X) (T : Takes X W) (h : compE (n + 1) C e = some f) : EE X W e f := by
  unfold compE at h
  split at h
  · cases h; exact ee_int
  · cases h; exact ee_bl
  · cases h; exact ee_non
  · cases h; exact ee_str
  · exact compName_ok F h
  · split at h
    · next h1 h2 h3 =>
      cases h
      obtain ⟨r, o1, o2⟩ := opF_ok (X := X) h1
      exact ee_bin o1 o2 (S.E F T h2) (S.E F T h3)
    · cases h
  · next a p =>
    cases z : compE n C a with
    | none => rw [z] at h; cases h
    | some g => rw [z] at h; cases h; exact ee_un un_neg neg_F (S.E F T z)
  · next a p =>
    cases z : compE n C a with
    | none => rw [z] at h; cases h
    | some g => rw [z] at h; cases h; exact ee_not (eb_of (S.E F T z))
  · exact S.Bo F T h
  · cases h; exact ee_dnewK
  · split at h
    · next h1 h2 => cases h; exact ee_d1 (S.E F T h1) (S.E F T h2)
    · cases h
  · split at h
    · next h1 h2 =>
      split at h
      · next hs => cases h; exact ee_tryE (ee_in (have := F.un; by omega) (S.E F T h1) (S.E F T h2) (set_marks hs))
      · cases h
    · cases h
  · split at h
    · next h1 h2 =>
      split at h
      · next hs => cases h; exact ee_tryE (ee_notIn (have := F.un; by omega) (S.E F T h1) (S.E F T h2) (set_marks hs))
      · cases h
    · cases h
  · split at h
    · next h1 h2 h3 =>
      split at h
      · next hs =>
        cases h
        obtain ⟨r, o1, o2⟩ := cmpF_ok (X := X) F.un h1
        exact ee_tryE (ee_cmp o1 o2 (S.E F T h2) (S.E F T h3) (set_marks hs))
      · cases h
    · cases h
  · split at h
    · next h1 h1' h2 h3 h4 =>
      split at h
      · next hs =>
        cases h
        obtain ⟨r, o1, o2⟩ := cmpF_ok (X := X) F.un h1
        obtain ⟨r', o1', o2'⟩ := cmpF_ok (X := X) F.un h1'
        exact ee_chain o1 o2 o1' o2' (S.E F T h2) (S.E F T h3) (S.E F T h4) (set_last hs)
      · cases h
    · cases h
  · split at h
    · next h1 h2 h3 => cases h; exact et_if (S.T F T h1) (S.E F T h2) (S.E F T h3)
    · cases h
  · split at h
    · next h1 h2 h3 => cases h; exact ee_slice (S.E F T h1) (S.O F T h2) (S.O F T h3)
    · cases h
  · exact compEx_ok F (fun h => S.E F T h) h
  · split at h
    · next h1 h2 =>
      split at h
      · next hs => cases h; exact ee_ixC (have := F.un; by omega) (S.E F T h1) (S.E F T h2) (plain_ix hs)
      · cases h
    · cases h
  · next es k p =>
    split at h
    · next hs =>
      cases z : compA n C es with
      | none => rw [z] at h; cases h
      | some g => rw [z] at h; cases h; exact ee_tup (S.A F T hs z)
    · cases h
  · next es p =>
    split at h
    · next hs =>
      cases z : compA n C es with
      | none => rw [z] at h; cases h
      | some g => rw [z] at h; cases h; exact ee_lst (S.A F T hs z)
    · cases h
  · next x p a as pos =>
    split at h
    · next hc =>
      obtain ⟨c1, c2, c3, c4⟩ := hc
      obtain ⟨k1, k2, k3⟩ := plainN_ok c1
      have hg : Gl X x := glB_ok (by rw [F.sc]; exact c4)
      have hall : (a :: as).all notStar = true := by rw [List.all_cons, c2, c3]; rfl
      split at h
      · next k Fn hk =>
        split at h
        · next hl =>
          cases z : compOs n C (a :: as) with
          | none => rw [z] at h; cases h
          | some g =>
            rw [z] at h
            cases h
            have gk := F.glb x
            rw [hk] at gk
            obtain ⟨lv, fa, fd, ps, ok, hr, hm, hkp, hb⟩ := gk
            obtain ⟨r1, r2⟩ := S.Os F T hall z
            exact ee_call ok (hr (F.calm hl.2)) hg hm hkp hb T (hl.1 ▸ r2) r1 k1 (star_cons c2) (star_plain c3)
        · cases h
      · next hk =>
        have hm := F.glb x
        rw [hk] at hm
        split at h
        · next hx =>
          subst hx
          split at h
          · exact S.Is F T c2 hg hm h
          · cases h
        · split at h
          · next g1 f1 h1 h2 => cases h; exact ee_tryE (bltF_ok F.un h1 F.calm hg hm (S.R F T hall h2).1 c2 c3 c1)
          · exact compEx_ok F (fun h => S.E F T h) h
      · cases h
    · cases h
  · next o m ap k x pos =>
    split at h
    · next hc =>
      obtain ⟨rfl, c1, c2, c3, c4⟩ := hc
      split at h
      · next h1 h2 h3 =>
        cases h
        have hs : ([k, x] : List Expr).all notStar = true := by simp [c3, c4]
        exact ee_get (have := F.un; by omega) (S.E F T h1) (S.E F T h2) (S.E F T h3) ⟨attr_base c1, by
          rw [star_all hs]
          simp only [Bool.true_and, Bool.and_eq_true, decide_eq_true_eq]
          exact ⟨rfl, by simp⟩, c2, by rw [star_cons c3, star_cons c4]; rfl⟩
      · cases h
    · cases h
  · next elt tg iter ifs scope pos =>
    obtain ⟨f0, h2, rfl⟩ := Option.map_eq_some_iff.mp h
    obtain ⟨wi, g, tt, te, P, r⟩ := S.Lc F T h2
    exact PEimpL (pe_lc P.hc F.nd P.hi P.ok P.hg P.ht P.he P.hs) fun σ H Q hl q => r σ H Q hl (tG_tryF q)
  · exact compEx_ok F (fun h => S.E F T h) h
theorem soundS : Sound (n + 1) := ⟨fun F T h => sE S F T h, fun F T a b c h => sIs S F T a b c h, fun F T h => sIfs S F T h, fun F T h => sBo S F T h, fun F T h => sT S F T h, fun F T h => sW S F T h, fun F T h => lc_pre S F T h, fun F T h => sO S F T h, fun F T a h => sA S F T a h,
  fun F T a h => sR S F T a h, fun F T a h => sOs S F T a h, fun F T h => sI S F T h, fun F T h => sIr S F T h⟩
end
theorem sound : ∀ n : Nat, Sound n
  | 0 => sound0
  | n + 1 => soundS (sound n)
end FL
namespace FL
open PySem L2
def eLstO (fa : FOs) : FE := fun ρ => (fa ρ).bnd fun us => match tmps us with
  | some os => if os.length ≤ sizeLine then .ok (.tmp (.node .lst os)) else .bad
  | none => .bad
@[simp] theorem eLstO_ap (fa : FOs) (ρ : Env) : eLstO fa ρ = (fa ρ).bnd fun us => match tmps us with
  | some os => if os.length ≤ sizeLine then .ok (.tmp (.node .lst os)) else .bad
  | none => .bad := rfl
section
variable {X : Cx} {W : WX} {es : List Expr} {pos : Pos}
theorem ee_lstO {fa : FOs} (h : EOs X W es fa) : EE X W (.List es pos) (eLstO fa) := PEimp (pe_lst h) fun σ H Q ⟨ρ, G, fp, c, q⟩ => by
  have q0 := q
  refine seqE (R := ROs X.K) (R' := RO X.K) (k := fun us => match tmps us with
    | some os => if os.length ≤ sizeLine then .ok (Opd.tmp (.node .lst os)) else .bad
    | none => .bad) c q fun us vs G1 H1 f hf g q1 => ?_
  have q0 : Post X.K X.mg W (RO X.K) ((fa ρ).bnd fun us => match tmps us with
    | some os => if os.length ≤ sizeLine then .ok (.tmp (.node .lst os)) else .bad
    | none => .bad) σ G H Q := q0
  rw [hf, Rs.bnd_ok] at q0
  cases z : tmps us with
  | none => rw [z] at q1; exact q1.elim
  | some os =>
    rw [z] at q0
    have r : Reps X.K G1 H1 vs os f := tmps_is g.rep z
    by_cases l : os.length ≤ sizeLine
    · dsimp only at q0
      rw [if_pos l] at q0
      refine ⟨by rw [r.length]; exact l, fun p n => ?_⟩
      have hp : p ∉ f := fun hp => by
        obtain ⟨u, hu, _⟩ := Reps.live r p hp
        rw [n] at hu; cases hu
      have gp : G1 p = none := L2.Same.free g.x n
      refine q0 (.ref p) G1 (upd H1 p (.lst vs)) (p :: f) ⟨g.gr, g.eh.trans (Ex.new n), g.x.trans (Ex.new n), ?_, List.nodup_cons.mpr ⟨hp, g.nd⟩, fun b hb => ?_⟩
      · exact .node (t := .lst) upd_same rfl (r.mono (Ex.refl _) fun a _ u h => Ex.new n a u h)
      · rcases List.mem_cons.mp hb with rfl | hb
        · exact ⟨gp, L2.Same.free g.eh n⟩
        · exact g.fr b hb
    · rw [z] at q1
      dsimp only at q1
      rw [if_neg l] at q1; exact q1.elim
end
def xMov (i : Nat) : FX := fun ρ => match ρ[i]? with
  | some (some o) => .ok (.tmp o) (ρ.set i none)
  | _ => .bad
theorem xMov_at {i : Nat} {ρ : Env} {o : O} (h : ρ[i]? = some (some o)) : xMov i ρ = .ok (.tmp o) (ρ.set i none) := by
  unfold xMov; rw [h]
theorem RepE.takeO {K : PySem.W.Frag} {G H : Hp} : ∀ {σ : L2.St} {ρ : Env} {f : List Addr} {i : Nat} {o : O}, RepE K G H σ ρ f → ρ[i]? = some (some o) →
    ∃ v f1 pre post, σ[i]? = some (some v) ∧ Rep K G H v o f1 ∧ f = pre ++ f1 ++ post ∧ RepE K G H σ (ρ.set i none) (pre ++ post)
  | _, _, _, _, _, .nil, e => by simp at e
  | _, _, _, 0, _, .no t, e => by simp at e
  | _, _, _, 0, _, .yes (f := f) (fs := fs) h t, e => by
    simp at e; subst e
    exact ⟨_, f, [], fs, rfl, h, by simp, by simpa using RepE.no t⟩
  | _, _, _, i + 1, o, .no t, e => by
    obtain ⟨v, f1, pre, post, h1, h2, h3, h4⟩ := RepE.takeO (i := i) (o := o) t (by simpa using e)
    exact ⟨v, f1, pre, post, by simpa using h1, h2, h3, by simpa using RepE.no h4⟩
  | _, _, _, i + 1, o, .yes (f := f) h t, e => by
    obtain ⟨v, f1, pre, post, h1, h2, h3, h4⟩ := RepE.takeO (i := i) (o := o) t (by simpa using e)
    exact ⟨v, f1, f ++ pre, post, by simpa using h1, h2, by rw [h3]; simp [List.append_assoc], by
      have z := RepE.yes h h4
      simpa [List.append_assoc] using z⟩
theorem xx_mov {X : Cx} {W : WX} (i : Nat) {x : Str} {pos : Pos} (h : PE X (.Name x pos) (tVar i)) : XX X W (.Name x pos) (xMov i) := PEimp h fun σ H Q ⟨ρ, G, fp, c, q⟩ => by
  unfold xMov at q
  cases z : ρ[i]? with
  | none => rw [z] at q; exact q.elim
  | some oo =>
    cases oo with
    | none => rw [z] at q; exact q.elim
    | some o =>
      rw [z] at q
      obtain ⟨v, f1, pre, post, g1, g2, g3, g4⟩ := c.rep.takeO z
      refine ⟨v, g1, q v G H f1 (pre ++ post) ?_⟩
      have hn := c.nd
      rw [g3] at hn
      have pm : (pre ++ f1 ++ post).Perm (f1 ++ (pre ++ post)) := by
        rw [← List.append_assoc]
        exact (List.perm_append_comm (l₁ := pre) (l₂ := f1)).append_right post
      have e1 : ∀ a, a ∈ f1 ++ (pre ++ post) ↔ a ∈ pre ++ f1 ++ post := fun a => pm.mem_iff.symm
      have hn2 : (f1 ++ (pre ++ post)).Nodup := pm.nodup_iff.mp hn
      refine ⟨Stp.refl.sub fun a ha => ?_, ⟨c.ex, g4, (List.nodup_append.mp hn2).2.1, fun a ha => c.fr a ?_⟩, g2, hn2, fun b hb => c.fr b ?_⟩
      · rw [g3]; exact (e1 a).mp ha
      · rw [g3]; exact (e1 a).mp (List.mem_append_right _ ha)
      · rw [g3]; exact (e1 b).mp (List.mem_append_left _ hb)
end FL
namespace FL
open PySem L2
noncomputable def muL (x : Str) (k : Nat) : Option Mu :=
  if x = "append" ∧ k = 1 then some muApp else
  if x = "extend" ∧ k = 1 then some muExt else
  if x = "insert" ∧ k = 2 then some muIns else
  if x = "pop" ∧ k = 0 then some muPop0 else
  if x = "pop" ∧ k = 1 then some muPop1 else
  if x = "reverse" ∧ k = 0 then some muRev else
  if x = "clear" ∧ k = 0 then some muClr else none
def ownName (own : List Str) : Expr → Bool
  | .Name x _ => decide (x ∈ own)
  | _ => false
def mkOwn : Expr → Bool
  | .Call (.Name _ _) _ _ _ => true
  | .List _ _ => true
  | .ListComp _ _ _ _ => true
  | _ => false
def xTupC (C : CC) (fa : FOs) : FX := if pkM C = true then xPck C.kp fa else xTup fa
def compNs (C : CC) : List Expr → Option (List Nat)
  | [] => some []
  | .Name x _ :: es => if C.st x = true then (match slotOf C.N x, compNs C es with
      | some i, some is => if i ∈ C.kp then none else some (i :: is)
      | _, _ => none) else none
  | _ :: _ => none
def pkU (C : CC) (es : List Expr) : Expr → Option (List Nat)
  | .Name x _ => if pkM C = true ∧ x ∈ C.own then compNs C es else none
  | _ => none
noncomputable def compX : Nat → CC → Expr → Option FX
  | 0, _, _ => none
  | n + 1, C, e => match e with
    | .Call (.Attribute o name ap) as [] pos => (match muL name as.length, compE n C o with
      | some M, some fo => if notSup o = true ∧ (ap.endLine == pos.line) = true ∧ as.all notStar = true then (match compOs n C as with
          | some fa => some (xMut "list" M fo fa)
          | none => (match as with
            | [a] => (compX n C a).map (xMut1 "list" M fo)
            | _ => none)) else none
      | _, _ => (compE n C e).map lft)
    | .Call (.Name x p) (a :: as) [] pos => if C.kpf x = [] then (compE n C (.Call (.Name x p) (a :: as) [] pos)).map lft else if plainN x = true ∧ notStar a = true ∧ as.all notStar = true ∧ glB C.sc x = true ∧ C.calm = true then (match C.glb x with
        | .fn k F => if (a :: as).length = k then (compOs n C (a :: as)).map (xCall F) else none
        | _ => none) else none
    | .Tuple es k p => if es.any (ownName C.own) = true then (if es.all notStar = true then (compOs n C es).map (xTupC C) else none) else (compE n C (.Tuple es k p)).map lft
    | .List es p => if es.any mkOwn = true then (if es.all notStar = true then (compOs n C es).map fun f => lft (eLstO f) else none) else (compE n C (.List es p)).map lft
    | e => (compE n C e).map lft
noncomputable def compV (n : Nat) (C : CC) (e : Expr) : Option FX := match e with
  | .Name x p => if x ∈ C.own ∧ plainN x = true ∧ visB C.sc x = true then (slotOf C.N x).map xMov else compX n C (.Name x p)
  | e => compX n C e
def dAug : D → D → Rs O
  | .int i, .int j => .ok (.dat (.int (i + j)))
  | _, _ => .bad
noncomputable def augF : Operator → Option (D → D → Rs O)
  | .Add => some dAug
  | .Sub => some dSub
  | _ => none
def swB (sc : Scope) (y : Str) (py lp : Pos) (scope : Scope) : Bool := (sc.names.lookup y == some .local) && (py.line == lp.line) && !(scope.names.any fun q => q.1 == y && (q.2 == .local || q.2 == .cell))
def setF (C : CC) (y : Str) (i : Nat) (fx : FX) : Option FS := if i ∈ C.kp then none else if y ∈ C.own then some (sOwn i fx) else some (sSet i fx)
def CC.suite (C : CC) (a : Addr) (d : Option Addr) (c : Str) : CC := { C with calm := false, exn := some (a, d, c) }
def frzX : Nat → CC → Expr → List Nat
  | 0, _, _ => []
  | n + 1, C, e => match e with
    | .List es _ => frzNs n C es
    | .Tuple es _ _ => frzNs n C es
    | .Call (.Attribute _ _ _) as _ _ => frzNs n C as
    | .Call _ as _ _ => frzXs n C as
    | .BinOp a _ b _ => frzX n C a ++ frzX n C b
    | _ => []
where
  frzXs : Nat → CC → List Expr → List Nat
  | 0, _, _ => []
  | _, _, [] => []
  | n + 1, C, e :: es => frzX n C e ++ frzXs n C es
  frzNs : Nat → CC → List Expr → List Nat
  | 0, _, _ => []
  | _, _, [] => []
  | n + 1, C, e :: es => (match e with
    | .Name x _ => if x ∈ C.own then (match slotOf C.N x with
      | some i => if i ∈ C.kp then [] else [i]
      | none => []) else []
    | e => frzX n C e) ++ frzNs n C es
def ownFor (C : CC) : Expr → Option Nat
  | .Name x _ => if x ∈ C.own ∧ plainN x = true ∧ visB C.sc x = true then slotOf C.N x else none
  | _ => none
def frzS (C : CC) : Stmt → List Nat
  | .Return (some (.Tuple _ _ _)) _ => []
  | .Return (some e) _ => frzX 40 C e
  | .Expr e _ => frzX 40 C e
  | .Assign [.Name y _] (.Name x _) _ => if y ∈ C.own then [] else if x ∈ C.own then (match slotOf C.N x with
      | some i => if i ∈ C.kp then [] else [i]
      | none => []) else []
  | .Assign [.Name _ _] e _ => frzX 40 C e
  | .For _ e _ _ _ => frzX 40 C e
  | _ => []
mutual
noncomputable def compS : Nat → CC → Stmt → Option FS
  | 0, _, _ => none
  | n + 1, C, s => match s with
    | .Pass _ => some sNx
    | .Break _ => some sBk
    | .Continue _ => some sCt
    | .Return none _ => some sRetN
    | .Return (some e) _ => (compX n C e).map (sRet C.kp)
    | .Expr (.Constant (.str _) _ _) _ => some sNx
    | .Expr e _ => if notComp e = true then (compX n C e).map sDrop else none
    | .Assign [.Name y py] e _ => (match slotOf C.N y, compX n C e with
      | some i, some fx => if C.st y = true ∧ plainN y = true then (match e with
          | .ListComp elt [⟨tg, iter, ifs, 0⟩] scope lp => if swB C.sc y py lp scope = true then (match compLc n C elt tg iter ifs scope with
              | some f => setF C y i (lft (tryF C iter f))
              | none => none) else if (C.sc.names.lookup y == some .cell) = true then setF C y i fx else none
          | .Dict [] [] _ => setF C y i (if y ∈ C.dT then lft (eDnew true) else fx)
          | e => if notComp e = true then setF C y i fx else none) else none
      | _, _ => none)
    | .Assign [.Tuple es k p] e _ => if notTup e = true ∧ notComp e = true ∧ C.calm = true then (match pkU C es e with
      | some is => (compV n C e).map (sUnp is)
      | none => (match compG C C.kp 3 (.Tuple es k p), compX n C e with
        | some b, some fx => some (sAsg b fx)
        | _, _ => none)) else none
    | .Assign [.Subscript (.Call (.Attribute (.Name y _) mth ap) [ke, .Dict [] [] _] [] cp) ie _] e _ => if mth = "setdefault" ∧ plainN y = true ∧ visB C.sc y = true ∧ notSlice ie = true ∧ notComp e = true ∧ notStar ke = true ∧ (ap.endLine == cp.line) = true then (match slotOf C.N y, compE n C ke, compE n C ie, compE n C e with
      | some i, some fk, some fi, some fe => some (sSetd i fk fi fe)
      | _, _, _, _ => none) else none
    | .Assign [.Subscript o i _] e _ => if notSlice i = true ∧ notComp e = true then (match compV n C e, compE n C o, compE n C i with
      | some fx, some fo, some fi => some (sSto muSet2 fx fo fi)
      | _, _, _ => none) else none
    | .AugAssign (.Subscript (.Name y _) ie _) .Add e _ => (match slotOf C.N y, compE n C ie, compE n C e with
      | some i, some fi, some fe => if plainN y = true ∧ visB C.sc y = true ∧ notSlice ie = true then some (sAugL i fi fe) else none
      | _, _, _ => none)
    | .AugAssign (.Name y _) op e _ => (match slotOf C.N y, augF op, compE n C e with
      | some i, some g, some f => if C.st y = true ∧ i ∉ C.kp then some (muAug g i f) else none
      | _, _, _ => none)
    | .If c a b _ => (match compT n C c, compB n C a, compB n C b with
      | some g, some fa, some fb => some (sIf g fa fb)
      | none, some fa, some fb => if plainT c = true then (compX n C c).map fun fx => sIfX fx fa fb else none
      | _, _, _ => none)
    | .While c a [] _ => (match compT n C c, compB n C a with
      | some g, some fa => some (sWhile g fa)
      | _, _ => none)
    | .For tg it a [] _ => if C.calm = true ∧ notSet it = true then (match ownFor C it with
      | some i => (match compG C (i :: C.kp) 3 tg, compB n { C with kp := i :: C.kp } a with
        | some b, some fa => some (sForO i b fa)
        | _, _ => none)
      | none => (match compI n C tg it, compG C C.kp 3 tg, compB n C a with
        | some fi, some b, some fa => some (sFor fi b fa)
        | _, _, _ => none)) else none
    | .Raise (some (.Call (.Name x _) [.Constant (.str _) _ _] [] _)) none _ => if C.calm = true ∧ plainN x = true ∧ glB C.sc x = true then (match C.glb x with
      | .exc => some (sRaise x)
      | _ => none) else none
    | .Raise (some (.Call (.Name x _) (e :: es) [] _)) none _ => if C.calm = true ∧ plainN x = true ∧ glB C.sc x = true ∧ (e :: es).all notStar = true then (match C.glb x, compA n C (e :: es) with
      | .excF ns, some f => some (sRaiseF x ns f)
      | _, _ => none) else none
    | .Try body [.ExceptHandler (some (.Name x _)) (some y) (b0 :: suite) _] [] [] _ => (match slotOf C.N y, compB n C body with
      | some i, some fb => if plainN x = true ∧ glB C.sc x = true ∧ (C.sub x x).isSome = true ∧ C.exn = none ∧ (C.sc.names.lookup y == some .local) = true ∧ i ∉ C.kp then
          some (sTryAs (fun c => C.sub c x) i fb fun a d c => (compB n (C.suite a d c) (b0 :: suite)).getD fun _ => .bad) else none
      | _, _ => none)
    | .Try body [.ExceptHandler (some (.Name x _)) none (b0 :: suite) _] [] [] _ => (match compB n C body with
      | some fb => if plainN x = true ∧ glB C.sc x = true ∧ (C.sub x x).isSome = true ∧ C.exn = none then
          (compB n { C with calm := false, exn := none } (b0 :: suite)).map fun fs => sTryOnly (fun c => C.sub c x) fb fs else none
      | _ => none)
    | _ => none
noncomputable def compB : Nat → CC → List Stmt → Option FS
  | 0, _, _ => none
  | n + 1, C, ss => match ss with
    | [] => some sNx
    | s :: ss => (compB n C ss).map (sSeq (sFrz (frzS C s) ((compS n C s).getD sBad)))
end
structure FitsS (C : CC) (X : Cx) (W : WX) : Prop extends Fits C X where
  hs : X.stack = X.env :: X.outer
  hf : X.env.frame = some X.env.locals
  tk : Takes X W
  ps : PassesOwn (model X.prog X.w) X.A X.env X.xe
theorem PSimpL {X : Cx} {e : Stmt} {t t' : TS} (h : PS X e t) (i : ∀ D σ H, X.N.length = σ.length → t' D σ H → t D σ H) : PS X e t' := ⟨fun pins s σ H D I q => h.run pins s σ H D I (i D σ H I.len.symm q)⟩
theorem tX_lft {K : PySem.W.Frag} {mg : Str → Option Value} {W : WX} {fe : FE} {σ : L2.St} {H : Hp} {Q : V → Hp → Prop} (h : tX K mg W (lft fe) σ H Q) : tG K mg W (RO K) fe σ H Q := by
  obtain ⟨ρ, G, fp, c, q⟩ := h
  refine ⟨ρ, G, fp, c, ?_⟩
  unfold lft at q
  cases z : fe ρ with
  | ok o =>
    rw [z] at q
    exact fun v G' H' f g => q v G' H' f fp (g.toX c)
  | exc cc fs =>
    rw [z] at q
    exact fun cls d G' H' m gr eh x ef => q cls d G' H' fp m (Stp.of gr eh) (c.grow gr eh x) ef
  | bad => rw [z] at q; exact q
section
variable {X : Cx} {W : WX} {kp : List Nat} {fx : FX} {te : TE} {i : Nat} {st : Stmt}
theorem asg_set (h : PS X st (tAsg te (gName i))) (hi : ∀ σ H Q, X.N.length = σ.length → tX X.K X.mg W fx σ H Q → te σ H Q) (hk : i ∉ kp) : SS X W kp st (sSet i fx) := PSimpL h fun D σ H hl ⟨ρ, G, fp, c, q⟩ => by
  refine hi σ H _ hl (exprS c q fun o ρ' v G1 H1 f fp1 _ g q1 => ?_)
  cases z : toDat ρ' o with
  | none => rw [z] at q1; exact q1.elim
  | some r =>
    obtain ⟨d, ρ2⟩ := r
    rw [z] at q1
    obtain ⟨G2, fp2, s, c2, r2⟩ := GotX.dat (G := G1) (H := H1) (fp := f ++ fp1) ⟨Stp.refl, g.conf, g.rep, g.nd, g.fr⟩ z
    obtain ⟨fp3, s3, c3⟩ := c2.put (i := i) (.dat r2) (by simpa using c2.nd) (fun _ z => by cases z)
    exact q1 (σ.set i (some v)) G2 H1 fp3 (s.trans (by simpa using s3)) c3 (Keep.set hk)
theorem asg_own (h : PS X st (tAsg te (gName i))) (hi : ∀ σ H Q, X.N.length = σ.length → tX X.K X.mg W fx σ H Q → te σ H Q) (hk : i ∉ kp) : SS X W kp st (sOwn i fx) := PSimpL h fun D σ H hl ⟨ρ, G, fp, c, q⟩ => by
  refine hi σ H _ hl (exprS c q fun o ρ' v G1 H1 f fp1 _ g q1 => ?_)
  cases z : toOwn ρ' o with
  | none => rw [z] at q1; exact q1.elim
  | some r =>
    obtain ⟨o2, ρ2⟩ := r
    rw [z] at q1
    obtain ⟨G2, f2, fp2, s, c2, r2, nd, fr⟩ := GotX.own (G := G1) (H := H1) (fp := f ++ fp1) ⟨Stp.refl, g.conf, g.rep, g.nd, g.fr⟩ z
    obtain ⟨fp3, s3, c3⟩ := c2.put (i := i) r2 nd fr
    exact q1 (σ.set i (some v)) G2 H1 fp3 (s.trans s3) c3 (Keep.set hk)
theorem setF_ok {C : CC} {y : Str} {f : FS} (h : PS X st (tAsg te (gName i))) (hi : ∀ σ H Q, X.N.length = σ.length → tX X.K X.mg W fx σ H Q → te σ H Q) (e : setF C y i fx = some f) : SS X W C.kp st f := by
  unfold setF at e
  split at e
  · cases e
  · next hk =>
    split at e
    · cases e; exact asg_own h hi hk
    · cases e; exact asg_set h hi hk
end
theorem muL_ok {X : Cx} {W : WX} {x : Str} {M : Mu} {o : Expr} {as : List Expr} {fo : FE} {ap pos : Pos} (h : muL x as.length = some M) (ho : EE X W o fo) (h1 : notSup o = true) (h2 : (ap.endLine == pos.line) = true) (h3 : as.all notStar = true) :
    (∀ fa, EOs X W as fa → (as = [] → fa = oNil) → XX X W (.Call (.Attribute o x ap) as [] pos) (xMut "list" M fo fa)) ∧ ∀ a fx, as = [a] → XX X W a fx → XX X W (.Call (.Attribute o x ap) as [] pos) (xMut1 "list" M fo fx) := by
  have few : ∀ {e : Expr} {es : List Expr}, (e :: es).all notStar = true → (e :: es).length < 5 → ((backTo pos (starEach (e :: es) X.env)).all (fun x => !x.1) && (backToKw pos (keywordEach [] X.env)).all (fun x => x.1.isSome)
      && decide ((e :: es).length + ([] : List Keyword).length + (if ([] : List Keyword).isEmpty then 0 else 1) < 30)) = true := fun {e es} hs hl => by
    rw [star_all hs]
    simp only [Bool.true_and, Bool.and_eq_true, decide_eq_true_eq]
    exact ⟨rfl, by simp only [List.length_nil, List.isEmpty_nil, if_true]; omega⟩
  have many : ∀ {id : String} {r : V → List V → Hp → VK → Prop} {M : Mu}, Slot "list" x id → typeOf (.builtin id) = pure (.type "method_descriptor") → MtR X id r → MutOk X.K r M → 0 < as.length → as.length < 5 →
      (∀ fa, EOs X W as fa → (as = [] → fa = oNil) → XX X W (.Call (.Attribute o x ap) as [] pos) (xMut "list" M fo fa)) ∧ ∀ a fx, as = [a] → XX X W a fx → XX X W (.Call (.Attribute o x ap) as [] pos) (xMut1 "list" M fo fx) := fun {id r M} sl ty hm mo l1 l2 => by
    cases as with
    | nil => cases l1
    | cons e es =>
      have h3' := h3
      rw [List.all_cons, Bool.and_eq_true] at h3'
      refine ⟨fun fa ha _ => xx_mut PySem.F.plainAttrs_list sl ty hm mo ho ha (attr_base h1) (few h3 l2) h2 (star_cons h3'.1) (star_plain h3'.2), fun a fx e1 hx => ?_⟩
      cases e1
      exact xx_mut1 PySem.F.plainAttrs_list sl ty hm mo ho hx (attr_base h1) (few h3 l2) h2 (star_cons h3'.1) rfl
  have none0 : ∀ {id : String} {r : V → List V → Hp → VK → Prop} {M : Mu}, Slot "list" x id → typeOf (.builtin id) = pure (.type "method_descriptor") → MtR X id r → MutOk X.K r M → as.length = 0 →
      (∀ fa, EOs X W as fa → (as = [] → fa = oNil) → XX X W (.Call (.Attribute o x ap) as [] pos) (xMut "list" M fo fa)) ∧ ∀ a fx, as = [a] → XX X W a fx → XX X W (.Call (.Attribute o x ap) as [] pos) (xMut1 "list" M fo fx) := fun {id r M} sl ty hm mo l => by
    cases as with
    | cons e es => cases l
    | nil =>
      refine ⟨fun fa ha hn => ?_, fun a fx e1 hx => by cases e1⟩
      rw [hn rfl]
      exact xx_mut0 PySem.F.plainAttrs_list sl ty hm mo ho (attr_base h1) h2
  unfold muL at h
  by_cases e : x = "append" ∧ as.length = 1
  · rw [if_pos e] at h; cases h
    obtain ⟨rfl, l⟩ := e
    exact many PySem.F.slot_list_append PySem.F.type_list_append mt_append app_M (by omega) (by omega)
  rw [if_neg e] at h
  by_cases e : x = "extend" ∧ as.length = 1
  · rw [if_pos e] at h; cases h
    obtain ⟨rfl, l⟩ := e
    exact many PySem.F.slot_list_extend PySem.F.type_list_extend mt_extend ext_M (by omega) (by omega)
  rw [if_neg e] at h
  by_cases e : x = "insert" ∧ as.length = 2
  · rw [if_pos e] at h; cases h
    obtain ⟨rfl, l⟩ := e
    exact many PySem.F.slot_list_insert PySem.F.type_list_insert mt_insert ins_M (by omega) (by omega)
  rw [if_neg e] at h
  by_cases e : x = "pop" ∧ as.length = 0
  · rw [if_pos e] at h; cases h
    obtain ⟨rfl, l⟩ := e
    exact none0 PySem.F.slot_list_pop PySem.F.type_list_pop mt_pop pop_M0 l
  rw [if_neg e] at h
  by_cases e : x = "pop" ∧ as.length = 1
  · rw [if_pos e] at h; cases h
    obtain ⟨rfl, l⟩ := e
    exact many PySem.F.slot_list_pop PySem.F.type_list_pop mt_popAt pop_M1 (by omega) (by omega)
  rw [if_neg e] at h
  by_cases e : x = "reverse" ∧ as.length = 0
  · rw [if_pos e] at h; cases h
    obtain ⟨rfl, l⟩ := e
    exact none0 PySem.F.slot_list_reverse PySem.F.type_list_reverse mt_reverse rev_M l
  rw [if_neg e] at h
  by_cases e : x = "clear" ∧ as.length = 0
  · rw [if_pos e] at h; cases h
    obtain ⟨rfl, l⟩ := e
    exact none0 PySem.F.slot_list_clear PySem.F.type_list_clear mt_clear clr_M l
  rw [if_neg e] at h
  cases h
theorem compOs_nil {n : Nat} {C : CC} {f : FOs} (h : compOs n C [] = some f) : f = oNil := by
  cases n with
  | zero => unfold compOs at h; cases h
  | succ n => unfold compOs at h; cases h; rfl
theorem compX_ok : ∀ {n : Nat} {C : CC} {X : Cx} {W : WX} {e : Expr} {f : FX}, Fits C X → Takes X W → compX n C e = some f → XX X W e f
  | 0, C, X, W, e, f, F, T, h => by unfold compX at h; cases h
  | n + 1, C, X, W, e, f, F, T, h => by
    have pure_ok : ∀ {e : Expr} {f : FX}, (compE n C e).map lft = some f → XX X W e f := fun {e f} h => by
      cases z : compE n C e with
      | none => rw [z] at h; cases h
      | some fe => rw [z] at h; cases h; exact xx_lft ((sound n).E F T z)
    unfold compX at h
    split at h
    · next o name ap as pos =>
      split at h
      · next M fo h1 h2 =>
        split at h
        · next hc =>
          obtain ⟨c1, c2, c3⟩ := hc
          obtain ⟨r1, r2⟩ := muL_ok h1 ((sound n).E F T h2) c1 c2 c3
          split at h
          · next fa h3 =>
            cases h
            exact r1 fa ((sound n).Os F T c3 h3).1 fun e => by subst e; exact compOs_nil h3
          · cases as with
            | nil => cases h
            | cons a as2 =>
              cases as2 with
              | cons _ _ => cases h
              | nil =>
                have h : (compX n C a).map (xMut1 "list" M fo) = some f := h
                cases z : compX n C a with
                | none => rw [z] at h; cases h
                | some fx => rw [z] at h; cases h; exact r2 a fx rfl (compX_ok F T z)
        · cases h
      · exact pure_ok h
    · next x p a as pos =>
      split at h
      · exact pure_ok h
      · split at h
        · next hc =>
          obtain ⟨c1, c2, c3, c4, c5⟩ := hc
          obtain ⟨k1, k2, k3⟩ := plainN_ok c1
          have hg : Gl X x := glB_ok (by rw [F.sc]; exact c4)
          have hall : (a :: as).all notStar = true := by rw [List.all_cons, c2, c3]; rfl
          split at h
          · next k Fn hk =>
            split at h
            · next hl =>
              cases z : compOs n C (a :: as) with
              | none => rw [z] at h; cases h
              | some g =>
                rw [z] at h
                cases h
                have gk := F.glb x
                rw [hk] at gk
                obtain ⟨lv, fa, fd, ps, ok, hr, hm, hkp, hb⟩ := gk
                obtain ⟨r1, r2⟩ := (sound n).Os F T hall z
                exact xx_call ok (hr (F.calm c5)) hg hm hkp hb T (hl ▸ r2) r1 k1 (star_cons c2) (star_plain c3)
            · cases h
          · cases h
        · cases h
    · next es k p =>
      split at h
      · split at h
        · next hs =>
          cases z : compOs n C es with
          | none => rw [z] at h; cases h
          | some g =>
            rw [z] at h; cases h
            unfold xTupC
            split
            · exact xx_pck _ ((sound n).Os F T hs z).1
            · exact xx_tup ((sound n).Os F T hs z).1
        · cases h
      · exact pure_ok h
    · next es p =>
      split at h
      · split at h
        · next hs =>
          cases z : compOs n C es with
          | none => rw [z] at h; cases h
          | some g => rw [z] at h; cases h; exact xx_lft (ee_lstO ((sound n).Os F T hs z).1)
        · cases h
      · exact pure_ok h
    · exact pure_ok h
theorem compNs_ok {C : CC} {X : Cx} (F : Fits C X) : ∀ {es : List Expr} {is : List Nat}, compNs C es = some is → PGs X es (tGO X.K C.kp is) ∧ es.all notStar = true ∧ es.length = is.length
  | [], is, h => by
    unfold compNs at h
    cases h
    exact ⟨go_nil, rfl, rfl⟩
  | e :: es, is, h => by
    unfold compNs at h
    split at h
    · next heq => cases heq
    · next x p es' heq =>
      cases heq
      split at h
      · next hl =>
        split at h
        · next i is' hi hr =>
          split at h
          · cases h
          · next hk =>
            cases h
            obtain ⟨g1, g2, g3⟩ := compNs_ok F hr
            obtain ⟨h1, h2⟩ := F.fn x hl
            exact ⟨go_cons F.nd (by rw [F.N]; exact slotOf_ok hi) h1 hk h2 g1, by rw [List.all_cons, g2]; rfl, by rw [List.length_cons, List.length_cons, g3]⟩
        · cases h
      · cases h
    · cases h
theorem pkU_ok {C : CC} {es : List Expr} {e : Expr} {is : List Nat} (h : pkU C es e = some is) : compNs C es = some is := by
  unfold pkU at h
  split at h
  · split at h
    · exact h
    · cases h
  · cases h
theorem compV_ok {n : Nat} {C : CC} {X : Cx} {W : WX} {e : Expr} {f : FX} (F : Fits C X) (T : Takes X W) (h : compV n C e = some f) : XX X W e f := by
  unfold compV at h
  split at h
  · next x p =>
    split at h
    · next hc =>
      obtain ⟨c1, c2, c3⟩ := hc
      obtain ⟨k1, k2, k3⟩ := plainN_ok c2
      cases z : slotOf C.N x with
      | none => rw [z] at h; cases h
      | some i =>
        rw [z] at h; cases h
        exact xx_mov i (pe_var (by rw [F.N]; exact slotOf_ok z) (by rw [F.sc]; exact visB_ok c3) k1 k2)
    · exact compX_ok F T h
  · exact compX_ok F T h
theorem augF_ok {X : Cx} {op : Operator} {g : D → D → Rs O} (h : augF op = some g) : ∃ ti, PIp X op ti ∧ AugF X.K ti g := by
  cases op <;> simp only [augF, Option.some.injEq, reduceCtorEq] at h
  · subst h; exact ⟨_, ip_add, aug_add⟩
  · subst h; exact ⟨_, ip_sub, aug_sub⟩

structure SoundS (n : Nat) : Prop where
  S : ∀ {C : CC} {X : Cx} {W : WX} {s : Stmt} {f : FS}, FitsS C X W → compS n C s = some f → SS X W C.kp s f
  B : ∀ {C : CC} {X : Cx} {W : WX} {s : List Stmt} {f : FS}, FitsS C X W → compB n C s = some f → SB X W C.kp s f
theorem FitsS.tr {C : CC} {X : Cx} {W W' : WX} (F : FitsS C X W) {pn : List (Addr × Obj)} {xe : Value → Shared → Prop} (hx : C.exn = none) (tk : Takes (X.tr pn xe) W') (ps : PassesOwn (model X.prog X.w) X.A X.env xe) : FitsS C (X.tr pn xe) W' where
  N := F.N
  sc := F.sc
  kind := F.kind
  nd := F.nd
  calm := F.calm
  un := F.un
  fn := F.fn
  glb := fun x => by
    have z := F.glb x
    cases e : C.glb x <;> rw [e] at z <;> exact z
  exn := fun a d c h => by rw [hx] at h; cases h
  isn := fun c x b h => by
    obtain ⟨C1, cv, cu, h1, h2, h3, h4⟩ := F.isn c x b h
    refine ⟨C1, cv, cu, h1, h2, ?_, h4⟩
    cases h3 with
    | own C h => exact .own C h
    | blt T h hb hn => exact .blt T h hb hn
  sub := fun c x b h => by
    obtain ⟨cls, cv, cu, h1, h2, h3⟩ := F.sub c x b h
    refine ⟨cls, cv, cu, h1, ?_, h3⟩
    cases h2 with
    | own C h => exact .own C h
    | blt T h hb hn => exact .blt T h hb hn
  hs := F.hs
  hf := F.hf
  tk := tk
  ps := ps
theorem FitsS.suite {C C' : CC} {X : Cx} {W : WX} (F : FitsS C X W) {a : Addr} {oe : Obj} {pn : List (Addr × Obj)} (e1 : C'.N = C.N) (e2 : C'.sc = C.sc) (e3 : C'.calm = false) (e4 : C'.st = C.st) (e5 : C'.glb = C.glb) (e6 : C'.isn = C.isn) (e7 : C'.sub = C.sub)
    (hx : ∀ a' d c, C'.exn = some (a', d, c) → a' = a ∧ ∃ cls, Zc cls d oe ∧ (∃ vs, oe.data = .fields vs) ∧ X.mg c = some cls) : FitsS C' (X.suite a ((a, oe) :: pn)) Wn where
  N := F.N.trans e1.symm
  sc := F.sc.trans e2.symm
  kind := F.kind
  nd := F.nd
  calm := fun h => by rw [e3] at h; cases h
  un := F.un
  fn := fun x h => F.fn x (by rw [← e4]; exact h)
  glb := fun x => by
    have z := F.glb x
    rw [e5]
    cases e : C.glb x with
    | fn k Fn =>
      rw [e] at z
      obtain ⟨k, f, fd, ps, h1, h2, h3⟩ := z
      exact ⟨k, f, fd, ps, h1, fun h => (by cases h), h3⟩
    | excF ns =>
      rw [e] at z
      obtain ⟨C, k, fI, fd, ps, h1, h2, h3, h4, h5, h6, h7⟩ := z
      exact ⟨C, k, fI, fd, ps, h1, h2, h3, h4, h5, fun h => (by cases h), h7⟩
    | _ => rw [e] at z; exact z
  exn := fun a' d c h => by
    obtain ⟨rfl, cls, h1, h2, h3⟩ := hx a' d c h
    exact ⟨X, oe, pn, cls, rfl, h1, h2, h3⟩
  isn := fun c x b h => by
    obtain ⟨C1, cv, cu, h1, h2, h3, h4⟩ := F.isn c x b (by rw [← e6]; exact h)
    refine ⟨C1, cv, cu, h1, h2, ?_, h4⟩
    cases h3 with
    | own C h => exact .own C h
    | blt T h hb hn => exact .blt T h hb hn
  sub := fun c x b h => by
    obtain ⟨cls, cv, cu, h1, h2, h3⟩ := F.sub c x b (by rw [← e7]; exact h)
    refine ⟨cls, cv, cu, h1, ?_, h3⟩
    cases h2 with
    | own C h => exact .own C h
    | blt T h hb hn => exact .blt T h hb hn
  hs := F.hs
  hf := F.hf
  tk := takes0
  ps := PassesOwn.never
theorem FitsS.kpC {C : CC} {X : Cx} {W : WX} (F : FitsS C X W) (k : List Nat) : FitsS { C with kp := k } X W where
  N := F.N
  sc := F.sc
  kind := F.kind
  nd := F.nd
  calm := F.calm
  un := F.un
  fn := F.fn
  glb := F.glb
  exn := F.exn
  isn := F.isn
  sub := F.sub
  hs := F.hs
  hf := F.hf
  tk := F.tk
  ps := F.ps
theorem ownFor_ok {C : CC} {e : Expr} {i : Nat} (h : ownFor C e = some i) : ∃ x p, e = .Name x p ∧ plainN x = true ∧ visB C.sc x = true ∧ slotOf C.N x = some i := by
  unfold ownFor at h
  split at h
  · next x p =>
    split at h
    · next hc => exact ⟨x, p, rfl, hc.2.1, hc.2.2, h⟩
    · cases h
  · cases h
theorem sw_cell {elt : Expr} {gs : List Comprehension} {scope : Scope} {pos py : Pos} {y : Str} {l : Nat} {env : PySem.Env} (hy : env.scope.names.lookup y = some .cell) : swapsWith (.ListComp elt gs scope pos) (some (.Name y py)) l env = pure false := by
  have ky : env.kindOf y = some .cell := hy
  unfold swapsWith
  simp only [ky]
  have e : (some NameKind.cell == some NameKind.local) = false := rfl
  rw [e]
  simp
theorem sw_no {C : CC} {X : Cx} (F : Fits C X) {y : Str} {py : Pos} {elt : Expr} {gs : List Comprehension} {scope : Scope} {lp : Pos} {l : Nat} (h : swB C.sc y py lp scope = true) : swapsWith (.ListComp elt gs scope lp) (some (.Name y py)) l X.env = pure true := by
  unfold swB at h
  simp only [Bool.and_eq_true, Bool.not_eq_true', beq_iff_eq] at h
  refine sw_true F.kind (by rw [F.sc]; exact h.1.1) (by simpa using h.1.2) ?_
  exact h.2
theorem bad_SB {X : Cx} {W : WX} {kp : List Nat} {ss : List Stmt} : SB X W kp ss (fun _ => .bad) := PSsimp pss_never fun D σ H ⟨ρ, G, fp, c, q⟩ => q
theorem names_ok {C : CC} {X : Cx} {W : WX} (F : FitsS C X W) {x c0 : Str} {b0 : Bool} (hp : plainN x = true) (hg : glB C.sc x = true) (h0 : C.sub c0 x = some b0) : ∃ cu, Names X x cu ∧ ∀ c cls b, C.sub c x = some b → X.mg c = some cls → PySem.W.exmOne X.K cls cu = some b := by
  obtain ⟨k1, k2, k3⟩ := plainN_ok hp
  have g : Gl X x := glB_ok (by rw [F.sc]; exact hg)
  obtain ⟨cls0, cv0, cu0, h1, h2, h3⟩ := F.sub c0 x b0 h0
  refine ⟨cu0, ⟨g, k1, ?_⟩, fun c cls b hb hm => ?_⟩
  · cases h2 with
    | own C h => exact .inl h
    | blt T h hb hn => exact .inr ⟨h, hb, hn⟩
  · obtain ⟨cls', cv', cu', g1, g2, g3⟩ := F.sub c x b hb
    have e1 : cls' = cls := Option.some.inj (g1.symm.trans hm)
    have e2 : cu' = cu0 := by
      cases h2 with
      | own C h =>
        cases g2 with
        | own C' h' => rw [h] at h'; cases h'; rfl
        | blt T' h' _ _ => rw [h] at h'; cases h'
      | blt T h hb hn =>
        cases g2 with
        | own C' h' => rw [h] at h'; cases h'
        | blt T' h' hb' _ => rw [hb] at hb'; cases hb'; rfl
    rw [← e1, ← e2]
    exact g3

theorem no_swapS {t e : Expr} {l : Nat} {env : PySem.Env} (h : notComp e = true) : swapsWithSole [t] e l env = pure false := by
  show swapsWith e (some t) l env = pure false
  exact no_swap h
theorem soundS0 : SoundS 0 := by
  constructor
  · intro C X W s f F h; unfold compS at h; cases h
  · intro C X W s f F h; unfold compB at h; cases h
section
variable {n : Nat} (S : SoundS n)
include S
theorem bB {C : CC} {X : Cx} {W : WX} {s : List Stmt} {f : FS} (F : FitsS C X W) (h : compB (n + 1) C s = some f) : SB X W C.kp s f := by
  unfold compB at h
  split at h
  · cases h; exact sb_nil
  · next s ss =>
    cases z : compB n C ss with
    | none => rw [z] at h; cases h
    | some g =>
      rw [z] at h; cases h
      refine sb_cons (ss_frz ?_ _) (S.B F z)
      cases z2 : compS n C s with
      | none => exact ss_bad
      | some f => exact S.S F z2
theorem bS {C : CC} {X : Cx} {W : WX} {s : Stmt} {f : FS} (F : FitsS C X W) (h : compS (n + 1) C s = some f) : SS X W C.kp s f := by
  unfold compS at h
  split at h
  · cases h; exact ss_pass
  · cases h; exact ss_break
  · cases h; exact ss_continue
  · cases h; exact ss_retN
  · next e p =>
    cases z : compX n C e with
    | none => rw [z] at h; cases h
    | some fx => rw [z] at h; cases h; exact ss_ret (compX_ok F.toFits F.tk z)
  · cases h; exact ss_doc
  · next e p hne =>
    split at h
    · next hc =>
      cases z : compX n C e with
      | none => rw [z] at h; cases h
      | some fx => rw [z] at h; cases h; exact ss_expr (compX_ok F.toFits F.tk z) (no_swap hc)
    · cases h
  · next y py e pos =>
    split at h
    · next i fx h1 h2 =>
      split at h
      · next hc =>
        obtain ⟨c1, c2⟩ := hc
        obtain ⟨g1, g2⟩ := F.fn y c1
        have hi : X.N[i]? = some y := by rw [F.N]; exact slotOf_ok h1
        split at h
        · next elt tg iter ifs scope lp =>
          split at h
          · next hsw =>
            split at h
            · next fe h3 =>
              obtain ⟨wi, g, tt, te, P, r⟩ := (sound n).Lc F.toFits F.tk h3
              have hyl : X.env.scope.names.lookup y = some .local := by
                unfold swB at hsw
                simp only [Bool.and_eq_true, beq_iff_eq] at hsw
                rw [F.sc]; exact hsw.1.1
              exact setF_ok (ps_setLc P.hc F.nd hi hyl (sw_no F.toFits hsw) P.hi P.ok P.hg P.ht P.he P.hs) (fun σ H Q hl q => r σ H Q hl (tG_tryF (tX_lft q))) h
            · cases h
          · split at h
            · next hcell => exact setF_ok (ps_set F.nd hi g1 (compX_ok F.toFits F.tk h2) (sw_cell (by rw [F.sc]; simpa using hcell)) g2) (fun σ H Q _ q => q) h
            · cases h
        · next dpos =>
          by_cases hd : y ∈ C.dT
          · rw [if_pos hd] at h
            exact setF_ok (ps_set F.nd hi g1 (xx_lft ee_dnewT) (no_swap rfl) g2) (fun σ H Q _ q => q) h
          · rw [if_neg hd] at h
            exact setF_ok (ps_set F.nd hi g1 (compX_ok F.toFits F.tk h2) (no_swap rfl) g2) (fun σ H Q _ q => q) h
        · split at h
          · next hn => exact setF_ok (ps_set F.nd hi g1 (compX_ok F.toFits F.tk h2) (no_swap hn) g2) (fun σ H Q _ q => q) h
          · cases h
      · cases h
    · cases h
  · next es k p e pos =>
    split at h
    · next hc =>
      obtain ⟨c1, c2, c3⟩ := hc
      split at h
      · next is hp =>
        cases z : compV n C e with
        | none => rw [z] at h; cases h
        | some fx =>
          rw [z] at h
          cases h
          obtain ⟨g1, g2, g3⟩ := compNs_ok F.toFits (pkU_ok hp)
          exact ss_unp (compV_ok F.toFits F.tk z) (gp_tup (F.calm c3) g1 ((each_len g2).trans g3) (each_none g2)) (no_swapS c2) (no_stores (.inl c1) fun hz => by cases hz) rfl
      split at h
      · next b fx h1 h2 =>
        cases h
        exact ss_asg (compX_ok F.toFits F.tk h2) (compG_ok F.toFits (F.calm c3) h1) (no_swapS c2) (no_stores (.inl c1) fun hz => by cases hz) rfl
      · cases h
    · cases h
  · next y py mth ap ke dp cp ie p2 e pos =>
    split at h
    · next hc =>
      obtain ⟨rfl, c1, c2, c3, c4, c5, c6⟩ := hc
      obtain ⟨k1, k2, _⟩ := plainN_ok c1
      split at h
      · next i fk fi fe h1 h2 h3 h4 =>
        cases h
        have hs : ([ke, .Dict [] [] dp] : List Expr).all notStar = true := by rw [List.all_cons, c5]; rfl
        refine ss_setd (pe_var (by rw [F.N]; exact slotOf_ok h1) (by rw [F.sc]; exact visB_ok c2) k1 k2) ((sound n).E F.toFits F.tk h2) ((sound n).E F.toFits F.tk h3) ((sound n).E F.toFits F.tk h4) (have := F.un; by omega) ⟨attr_base rfl, by
          rw [star_all hs]
          simp only [Bool.true_and, Bool.and_eq_true, decide_eq_true_eq]
          exact ⟨rfl, by simp⟩, c6, by rw [star_cons c5, star_cons (e := .Dict [] [] dp) rfl]; rfl⟩ ?_ (no_swapS c4) (no_stores (.inr rfl) fun _ es p e => by cases e) rfl
        intro v
        cases ie <;> first | rfl | cases c3
      · cases h
    · cases h
  · next o i p e pos _ =>
    split at h
    · next hc =>
      obtain ⟨c1, c2⟩ := hc
      split at h
      · next fx fo fi h1 h2 h3 =>
        cases h
        refine ss_sto (compV_ok F.toFits F.tk h1) ((sound n).E F.toFits F.tk h2) ((sound n).E F.toFits F.tk h3) (set_all (have := F.un; by omega)) set_M2 ?_ (no_swapS c2) (no_stores (.inr rfl) fun _ es p e => by cases e) rfl
        intro v
        cases i <;> first | rfl | cases c1
      · cases h
    · cases h
  · next y py ie p e pos =>
    split at h
    · next i fi fe h1 h2 h3 =>
      split at h
      · next hc =>
        cases h
        obtain ⟨c1, c2, c3⟩ := hc
        obtain ⟨k1, k2, _⟩ := plainN_ok c1
        refine ss_augL (pe_var (by rw [F.N]; exact slotOf_ok h1) (by rw [F.sc]; exact visB_ok c2) k1 k2) ((sound n).E F.toFits F.tk h2) ((sound n).E F.toFits F.tk h3) (have := F.un; by omega) ?_
        intro ov iv new
        cases ie <;> first | rfl | cases c3
      · cases h
    · cases h
  · next y py op e pos =>
    split at h
    · next i g fe h1 h2 h3 =>
      split at h
      · next hc =>
        cases h
        obtain ⟨g1, g2⟩ := F.fn y hc.1
        obtain ⟨ti, o1, o2⟩ := augF_ok (X := X) h2
        exact ss_aug F.nd (by rw [F.N]; exact slotOf_ok h1) g1 hc.2 ((sound n).E F.toFits F.tk h3) o1 o2 g2
      · cases h
    · cases h
  · next c a b pos =>
    split at h
    · next g fa fb h1 h2 h3 => cases h; exact ss_if ((sound n).T F.toFits F.tk h1) (S.B F h2) (S.B F h3)
    · next fa fb h1 h2 h3 =>
      split at h
      · next hp =>
        cases z : compX n C c with
        | none => rw [z] at h; cases h
        | some fx => rw [z] at h; cases h; exact ss_ifX (compX_ok F.toFits F.tk z) (S.B F h2) (S.B F h3) (plain_true hp)
      · cases h
    · cases h
  · split at h
    · next g fa h1 h2 => cases h; exact ss_while F.ps ((sound n).T F.toFits F.tk h1) (S.B F h2)
    · cases h
  · next tg it a pos =>
    split at h
    · next hc =>
      obtain ⟨c1, c2⟩ := hc
      split at h
      · next i ho =>
        split at h
        · next b fa h2 h3 =>
          cases h
          obtain ⟨x, p, rfl, k1, k2, k3⟩ := ownFor_ok ho
          have he : EE X W (.Name x p) (eVar i) := compName_ok F.toFits (by unfold compName; rw [if_pos k1, if_pos k2, k3])
          exact ss_forO F.ps (F.calm c1) he (compG_ok F.toFits (F.calm c1) h2) (S.B (C := { C with kp := i :: C.kp }) (F.kpC _) h3) (set_fold c2)
        · cases h
      · split at h
        · next fi b fa h1 h2 h3 => cases h; exact ss_for F.ps (F.calm c1) ((sound n).I F.toFits F.tk h1) (compG_ok F.toFits (F.calm c1) h2) (S.B F h3) (set_fold c2)
        · cases h
    · cases h
  · next x p s j p2 pos pos2 =>
    split at h
    · next hc =>
      obtain ⟨c1, c2, c3⟩ := hc
      obtain ⟨k1, k2, k3⟩ := plainN_ok c2
      split at h
      · next hx =>
        cases h
        have gk := F.glb x
        rw [hx] at gk
        obtain ⟨Ca, g1, g2, g3, g4⟩ := gk
        exact ss_raise (F.calm c1) F.tk PySem.F.excBase_ValueError g2 g1 g3 g4 (glB_ok (by rw [F.sc]; exact c3)) k1
      · cases h
    · cases h
  · next x p e es pos pos2 _ =>
    split at h
    · next hc =>
      obtain ⟨c1, c2, c3, c4⟩ := hc
      obtain ⟨k1, k2, k3⟩ := plainN_ok c2
      split at h
      · next ns f hx ha =>
        cases h
        have gk := F.glb x
        rw [hx] at gk
        obtain ⟨Ca, k, fI, fd, ps, g1, g2, g3, g4, g5, g6, g7, g8⟩ := gk
        have c5 := c4
        rw [List.all_cons, Bool.and_eq_true] at c5
        exact ss_raiseF (F.calm c1) F.tk g1 g2 g3 g4 g5 (g6 (F.calm c1)) g7 (fun _ σ _ _ u s' I c => F.tk u s' (XE.of_call I (fun _ _ _ h => h.elim) c)) (glB_ok (by rw [F.sc]; exact c3)) g8 ((sound n).A F.toFits F.tk c4 ha) k1 (star_cons c5.1) (star_plain c5.2)
      · cases h
    · cases h
  · next body x np y b0 suite p2 pos =>
    split at h
    · next i fb h1 h2 =>
      split at h
      · next hc =>
        cases h
        obtain ⟨c1, c2, c3, c4, c5, c6⟩ := hc
        obtain ⟨bb, hbb⟩ := Option.isSome_iff_exists.mp c3
        obtain ⟨cu, hn, hsub⟩ := names_ok F c1 c2 hbb
        have c5 : C.sc.names.lookup y = some .local := by simpa using c5
        refine ss_tryAs F.hs F.hf F.nd (by rw [F.N]; exact slotOf_ok h1) (show X.env.scope.names.lookup y = some .local by rw [F.sc]; exact c5) hn F.tk c6 hsub (fun W' pn xe tk ps => S.B (F.tr c4 tk ps) h2) fun a oe cls d pn c hz hf hm => ?_
        cases z : compB n (C.suite a d c) (b0 :: suite) with
        | none => exact bad_SB
        | some fs => exact S.B (C := C.suite a d c) (F.suite (C' := C.suite a d c) rfl rfl rfl rfl rfl rfl rfl fun a' d' c' e => by cases e; exact ⟨rfl, cls, hz, hf, hm⟩) z
      · cases h
    · cases h
  · next body x np b0 suite p2 pos =>
    split at h
    · next fb h1 =>
      split at h
      · next hc =>
        obtain ⟨c1, c2, c3, c4⟩ := hc
        obtain ⟨bb, hbb⟩ := Option.isSome_iff_exists.mp c3
        obtain ⟨cu, hn, hsub⟩ := names_ok F c1 c2 hbb
        cases z : compB n { C with calm := false, exn := none } (b0 :: suite) with
        | none => rw [z] at h; cases h
        | some fs =>
          rw [z] at h; cases h
          exact ss_tryOnly F.hs F.hf hn F.tk hsub (fun W' pn xe tk ps => S.B (F.tr c4 tk ps) h1) fun a oe cls d pn hz hf => S.B (C := { C with calm := false, exn := none }) (F.suite (C' := { C with calm := false, exn := none }) rfl rfl rfl rfl rfl rfl rfl fun a' d' c' e => by cases e) z
      · cases h
    · cases h
  · cases h
end
theorem soundSt : ∀ n : Nat, SoundS n
  | 0 => soundS0
  | n + 1 => ⟨fun F h => bS (soundSt n) F h, fun F h => bB (soundSt n) F h⟩
end FL
namespace FL
open PySem L2
structure FnE where
  name : Str
  params : Arguments
  body : List Stmt
  scope : Scope
  N : List Str
  ps : List Str
  own : List Str := []
  kp : List Nat := []
  dT : List Str := []
structure Pg where
  tab : List FnE
  misc : Str → Gk
  sub : Str → Str → Option Bool
  isn : Str → Str → Option Bool
def Pg.look (P : Pg) (x : Str) : Option FnE := P.tab.find? fun f => f.name == x
def Pg.glb (P : Pg) (d : Str → List O → RF) (x : Str) : Gk := match P.misc x with
  | .no => (match P.look x with
    | some f => .fn f.ps.length (d x)
    | none => .no)
  | k => k
def Pg.ctx (P : Pg) (d : Str → List O → RF) (f : FnE) : CC := ⟨f.N, f.scope, locB f.scope, f.own, f.kp, true, P.glb d, none, P.sub, P.isn, f.dT, fun x => ((P.look x).map FnE.kp).getD []⟩
noncomputable def Pg.bodyF (P : Pg) (d : Str → List O → RF) (f : FnE) : FS := (compB 200 (P.ctx d f) f.body).getD fun _ => .bad
noncomputable def Pg.den (P : Pg) : Nat → Str → List O → RF
  | 0, _ => fun _ => .bad
  | n + 1, x => match P.look x with
    | some f => runF f.kp f.N.length (P.bodyF (P.den n) f)
    | none => fun _ => .bad
theorem Pg.den_eq {P : Pg} {n : Nat} {x : Str} {f : FnE} {b : FS} (h : P.look x = some f) (hb : compB 200 (P.ctx (P.den n) f) f.body = some b) : P.den (n + 1) x = runF f.kp f.N.length b := by
  show (match P.look x with
    | some f => runF f.kp f.N.length (P.bodyF (P.den n) f)
    | none => fun _ => .bad) = _
  rw [h]
  simp only [Pg.bodyF, hb, Option.getD_some]
def MiscOk (K : PySem.W.Frag) (mg : Str → Option Value) (x : Str) : Gk → Prop
  | .no => True
  | .blt => mg x = none
  | .cst d => ∃ v u, mg x = some u ∧ RelV v u ∧ ∀ G, IsD K G v d
  | .fn _ _ => False
  | .exc => ∃ C, mg x = some (.ref C) ∧ PySem.W.excIn K C He.veBase "ValueError.__new__" = true ∧ PySem.W.keepIn K (.ref C) = true ∧ PySem.W.subIn K (.ref C) (.type "BaseException") = some true ∧ PySem.W.typeIn K (.ref C) = some (.type "type")
  | .excF ns => ∃ C fI fd nm qual params body scope N ps B, OexC K C ∧ (∀ f ∈ ns, PySem.W.findIn K (.ref C) f = some none) ∧ PySem.W.findIn K (.ref C) "__init__" = some (some (.ref fI)) ∧ PySem.W.typeIn K (.ref fI) = some (.type "function") ∧
    FunD K nm qual params body scope [] [] fI fd ∧ FnScope N ps scope ∧ Binds K fd ps [] ∧ mg x = some (.ref C) ∧ initB scope N ns body = true ∧ ps.length = ns.length + 1 ∧ ns ≠ [] ∧ ns.length ≤ 800 ∧ mg "TollError" = some (.ref B) ∧
    PySem.W.specialIn K (.ref B) "__getattribute__" = some (some (.builtin "type.__getattribute__")) ∧ PySem.W.typeIn K (.ref B) = some (.type "type") ∧ PySem.W.readsIn K B (.type "type") = true ∧ PySem.W.findCls K (.ref B) (.type "type") "__init__" = some (.val (.builtin "ValueError.__init__"))
inductive ClsM (mg : Str → Option Value) (x : Str) : V → Value → Prop where
  | own (C : Addr) (h : mg x = some (.ref C)) : ClsM mg x (.ref C) (.ref C)
  | blt (T : String) (h : mg x = none) (hb : bootBuiltins x = some (.type T)) (hn : x ≠ "__name__") : ClsM mg x (.ty T) (.type T)
structure PgOk (P : Pg) (K : PySem.W.Frag) (mg : Str → Option Value) : Prop where
  fn : ∀ f ∈ P.tab, ∃ fa fd qual, FunD K f.name qual f.params f.body f.scope [] [] fa fd ∧ mg f.name = some (.ref fa) ∧ FnScope f.N f.ps f.scope ∧ Binds K fd f.ps [] ∧ ∀ i ∈ f.kp, i < f.ps.length
  misc : ∀ x, MiscOk K mg x (P.misc x)
  isn : ∀ c x b, P.isn c x = some b → ∃ C1 cv cu, mg c = some (.ref C1) ∧ ExcC K C1 ∧ ClsM mg x cv cu ∧ PySem.W.kitOne K (.ref C1) cu = some b
  sub : ∀ c x b, P.sub c x = some b → ∃ cls cv cu, mg c = some cls ∧ ClsM mg x cv cu ∧ PySem.W.exmOne K cls cu = some b
theorem ClsM.at {X : Cx} {x : Str} {cv : V} {cu : Value} (h : ClsM X.mg x cv cu) : ClsN X x cv cu := by
  cases h with
  | own C h => exact .own C h
  | blt T h hb hn => exact .blt T h hb hn
section
variable {P : Pg} {K : PySem.W.Frag} {mg : Str → Option Value} {Pr : Program} {w : World} {base : Heap}
theorem look_mem {x : Str} {f : FnE} (h : P.look x = some f) : f ∈ P.tab ∧ f.name = x := by
  unfold Pg.look at h
  exact ⟨List.mem_of_find?_eq_some h, by simpa using List.find?_some h⟩
theorem un_ok {A : Around} {k : Nat} (r : Room k A) : A.units + 66 < cLine := by
  have := r.un
  omega
theorem den_ok (O : PgOk P K mg) : ∀ (n : Nat) (x : Str) (f : FnE), P.look x = some f → ∀ fa fd qual, FunD K f.name qual f.params f.body f.scope [] [] fa fd → mg f.name = some (.ref fa) → FnScope f.N f.ps f.scope → (∀ i ∈ f.kp, i < f.ps.length) →
    FnOk Pr w K mg base (L2.CX Pr w) (n + 2) fa fd f.ps (spF K mg f.ps.length (P.den n x))
  | 0, x, f, h, fa, fd, qual, F, hm, hsc, hk => ⟨fun vs H Q E h => h.1, fun A outer s H args us vs Q E hr he hb hv h => by
      obtain ⟨_, os, G, fp, _, _, _, _, q⟩ := h
      exact q.elim⟩
  | n + 1, x, f, h, fa, fd, qual, F, hm, hsc, hk => by
    have hden : P.den (n + 1) x = runF f.kp f.N.length (P.bodyF (P.den n) f) := by
      show (match P.look x with
        | some f => runF f.kp f.N.length (P.bodyF (P.den n) f)
        | none => fun _ => .bad) = _
      rw [h]
    refine F.ok hsc (fun vs H Q E h => h.1) fun cdv A outer s H vs Q E hr q => ?_
    obtain ⟨hl, os, G, fp, hx, rp, nd, fr, q⟩ := q
    rw [hden] at q
    refine ⟨tS K mg (fun cls d _ H => E cls d H) f.kp (P.bodyF (P.den n) f), ?_, endF_ok hx rp nd fr (fun i hi => by rw [hl]; exact hk i hi) q⟩
    have fits : FitsS (P.ctx (P.den n) f) (cxOf (L2.CX Pr w) Pr w K mg base f.N qual f.scope fa cdv A outer s H E) (fun cls d _ H => E cls d H) := by
      refine { N := rfl, sc := rfl, kind := hsc.kind, nd := hsc.nd, calm := fun _ => rfl, un := ?_, fn := fun y hy => ⟨locB_ok hy, .inl rfl⟩, glb := fun y => ?_, exn := fun a d c e => (by cases e), isn := fun c y b e => ?_, sub := fun c y b e => ?_, hs := rfl, hf := rfl, tk := takes_of rfl rfl rfl rfl, ps := passes_of rfl }
      · exact un_ok hr
      · show GkOk _ y (P.glb (P.den n) y)
        have hmisc := O.misc y
        unfold Pg.glb
        cases e : P.misc y with
        | no =>
          simp only
          cases e2 : P.look y with
          | none => trivial
          | some f2 =>
            simp only
            obtain ⟨m1, m2⟩ := look_mem e2
            obtain ⟨fa2, fd2, q2, F2, hm2, hsc2, hb2, hk2⟩ := O.fn f2 m1
            exact ⟨n + 2, fa2, fd2, f2.ps, den_ok O n y f2 e2 fa2 fd2 q2 F2 hm2 hsc2 hk2, fun _ => hr, by rw [← m2]; exact hm2, F2.kp, hb2⟩
        | blt => rw [e] at hmisc; exact hmisc
        | cst d => rw [e] at hmisc; exact hmisc
        | fn k Fn => rw [e] at hmisc; exact hmisc.elim
        | exc =>
          rw [e] at hmisc
          obtain ⟨Ca, h1, h2, h3, h4, h5⟩ := hmisc
          exact ⟨Ca, h1, h2, h3, raises_own h4 h5⟩
        | excF ns =>
          rw [e] at hmisc
          obtain ⟨C, fI, fd2, nm, q2, params, body, scope, N2, ps2, B, h1, h2, h3, h4, h5, h6, h7, h8, h9, h10, h11, h12, h13, h14, h15, h16, h17⟩ := hmisc
          exact ⟨C, 1, fI, fd2, ps2, h1, h2, h3, h4, init_ok h5 h6 h9 h10 h11 h12 h13 h14 h15 h16 h17, fun _ => hr.mono (by omega), h7, h8⟩
      · obtain ⟨C1, cv, cu, h1, h2, h3, h4⟩ := O.isn c y b e
        exact ⟨C1, cv, cu, h1, h2, h3.at, h4⟩
      · obtain ⟨cls, cv, cu, h1, h2, h3⟩ := O.sub c y b e
        exact ⟨cls, cv, cu, h1, h2.at, h3⟩
    unfold Pg.bodyF
    cases e : compB 200 (P.ctx (P.den n) f) f.body with
    | none => exact bad_SB
    | some b => exact (soundSt 200).B fits e
theorem law_sp {F : List O → RF} {H : Hp} {a : Addr} {ns : List Int} (h : SqL K H a (ns.map V.int)) (hF : ∃ os, F [.dat (.scr (ns.map .int))] = .ok (.dat (.bl true)) os) : spF K mg 1 F [.ref a] H (fun v _ => v = .bl true) fun _ _ _ => False := by
  obtain ⟨os, e⟩ := hF
  have hi : ∀ l : List Int, IsDs K H (l.map V.int) (l.map D.int) := fun l => by
    induction l with
    | nil => exact .nil
    | cons i l ih => exact .cons (.int i) ih
  refine ⟨rfl, [.dat (.scr (ns.map .int))], H, [], Ex.refl _, ?_, List.nodup_nil, fun _ z => (by cases z), ?_⟩
  · have z := Reps.cons (K := K) (G := H) (H := H) (.dat (.scr h (hi ns))) .nil
    simpa using z
  · rw [e]
    intro v G' H' f fp' s x r _ _ _
    cases r with
    | dat r => exact r.bl_inv
end
end FL
namespace FL
open PySem L2 He
def clsVal (K : PySem.W.Frag) (x : Str) : Value := if x = "ValueError" then .type "ValueError" else .ref (ga K x)
def clsB (K : PySem.W.Frag) (x : Str) : Bool := if x = "ValueError" then eqO (PySem.W.nsIn K mainGlobals x) (some none) else eqO (PySem.W.nsIn K mainGlobals x) (some (some (.ref (ga K x))))
def gloB (K : PySem.W.Frag) (x : Str) : Bool := eqO (PySem.W.nsIn K mainGlobals x) (some (some (.ref (ga K x))))
structure IniE where
  cls : Str
  qual : Str
  f : FnE
  ns : List Str
def IniE.defD (i : IniE) : DefD := ⟨(i.cls, some "__init__"), i.f.name, i.qual, i.f.params, i.f.body, i.f.scope, [], []⟩
def IniE.at_ (K : PySem.W.Frag) (i : IniE) : Addr := fAd K (i.cls, some "__init__")
def oexB (K : PySem.W.Frag) (C : Addr) : Bool := (match K.lookup C with
  | some ⟨.type "type", _, .cls cd, sl⟩ => (match cd.mro, sl.toList with
    | .ref C' :: bm, [_, _, _, _, some (.builtin n), _] => decide (C' = C) && (decide (n = "ValueError.__new__") && (!cd.hasDel && (cd.hasDict && PySem.HandSPX.refsVE bm)))
    | _, _ => false)
  | _ => false) && (decide (PySem.W.findIn K (.ref C) "__setattr__" = some (some (.builtin "object.__setattr__"))) && (decide (PySem.W.subIn K (.ref C) (.type "BaseException") = some true) && (decide (PySem.W.typeIn K (.ref C) = some (.type "type")) && PySem.W.keepIn K (.ref C))))
theorem oexB_ok {K : PySem.W.Frag} {C : Addr} (h : oexB K C = true) : OexC K C := by
  unfold oexB at h
  simp only [Bool.and_eq_true, decide_eq_true_eq] at h
  obtain ⟨h1, h2, h3, h4, h5⟩ := h
  refine ⟨?_, h2, h3, h4, h5⟩
  split at h1
  · next dd cd sl ho =>
    split at h1
    · next C' bm k0 k1 k2 k3 n k5 hm hs =>
      simp only [Bool.and_eq_true, decide_eq_true_eq, Bool.not_eq_true'] at h1
      obtain ⟨rfl, rfl, a1, a2, a3⟩ := h1
      obtain ⟨nm, bs, mro, ns, qn, hd, sn, sub, ab, col, del⟩ := cd
      dsimp only at hm a1 a2
      subst hm a1 a2
      obtain ⟨l⟩ := sl
      have hs : l = [k0, k1, k2, k3, some (.builtin "ValueError.__new__"), k5] := hs
      subst hs
      exact ⟨nm, qn, ns, bs, bm, sn, sub, ab, col, dd, k0, k1, k2, k3, k5, ho, a3⟩
    · cases h1
  · cases h1
def tollB (K : PySem.W.Frag) : Bool := gloB K "TollError" && (decide (PySem.W.specialIn K (.ref (ga K "TollError")) "__getattribute__" = some (some (.builtin "type.__getattribute__"))) && (decide (PySem.W.typeIn K (.ref (ga K "TollError")) = some (.type "type")) && (PySem.W.readsIn K (ga K "TollError") (.type "type") &&
  (match PySem.W.findCls K (.ref (ga K "TollError")) (.type "type") "__init__" with
    | some (.val (.builtin n)) => decide (n = "ValueError.__init__")
    | _ => false))))
theorem tollB_cls {K : PySem.W.Frag} {v : Value} (h : (match PySem.W.findCls K v (.type "type") "__init__" with
    | some (.val (.builtin n)) => decide (n = "ValueError.__init__")
    | _ => false) = true) : PySem.W.findCls K v (.type "type") "__init__" = some (.val (.builtin "ValueError.__init__")) := by
  split at h
  · next n e =>
    have h : n = "ValueError.__init__" := by simpa using h
    rw [e, h]
  · cases h
def iniB (K : PySem.W.Frag) (i : IniE) : Bool := gloB K i.cls && (oexB K (ga K i.cls) && (i.ns.all (fun f => decide (PySem.W.findIn K (.ref (ga K i.cls)) f = some none)) && (decide (PySem.W.findIn K (.ref (ga K i.cls)) "__init__" = some (some (.ref (i.at_ K)))) && (decide (PySem.W.typeIn K (.ref (i.at_ K)) = some (.type "function")) && tollB K))))
def iniS (i : IniE) : Bool := initB i.f.scope i.f.N i.ns i.f.body && (decide (i.f.ps.length = i.ns.length + 1) && (!i.ns.isEmpty && decide (i.ns.length ≤ 800)))
def miscB (K : PySem.W.Frag) (q : Str × Gk) : Bool := match q.2 with
  | .no => true
  | .blt => eqO (PySem.W.nsIn K mainGlobals q.1) (some none)
  | .cst (.int i) => (match PySem.W.nsIn K mainGlobals q.1 with
    | some (some (.int j _)) => decide (j = i)
    | _ => false)
  | .cst (.str s) => (match PySem.W.nsIn K mainGlobals q.1 with
    | some (some (.str t _)) => decide (t = s)
    | _ => false)
  | .exc => gloB K q.1 && (PySem.W.excIn K (ga K q.1) veBase "ValueError.__new__" && (PySem.W.keepIn K (.ref (ga K q.1)) && (decide (PySem.W.subIn K (.ref (ga K q.1)) (.type "BaseException") = some true) && decide (PySem.W.typeIn K (.ref (ga K q.1)) = some (.type "type")))))
  | _ => false
def excCB (K : PySem.W.Frag) (D : Addr) : Bool := decide (PySem.W.findIn K (.ref D) "__getattribute__" = some (some (.builtin "BaseException.__getattribute__"))) && (decide (PySem.W.findIn K (.ref D) "__getattr__" = some none) &&
  (decide (PySem.W.subIn K (.ref D) (.type "BaseException") = some true) && (PySem.W.hasDictIn K D && (decide (PySem.W.findIn K (.ref D) "__class__" = some (some (.builtin "object.__class__"))) &&
  (decide (PySem.W.specialIn K (.builtin "object.__class__") "__get__" = some (some (.builtin "getset_descriptor.__get__"))) && (decide (PySem.W.takesIn K (.builtin "object.__class__") = some true) && decide (PySem.W.mroIn K D (.type "object") = some true)))))))
theorem excCB_ok {K : PySem.W.Frag} {D : Addr} (h : excCB K D = true) : ExcC K D := by
  unfold excCB at h
  simp only [Bool.and_eq_true, decide_eq_true_eq] at h
  exact ⟨h.1, h.2.1, h.2.2.1, h.2.2.2.1, h.2.2.2.2.1, h.2.2.2.2.2.1, h.2.2.2.2.2.2.1, h.2.2.2.2.2.2.2⟩
abbrev Tri := Str × Str × Bool
def isnB (K : PySem.W.Frag) (t : Tri) : Bool := gloB K t.1 && (clsB K t.2.1 && (excCB K (ga K t.1) && decide (PySem.W.kitOne K (.ref (ga K t.1)) (clsVal K t.2.1) = some t.2.2)))
def subB (K : PySem.W.Frag) (t : Tri) : Bool := gloB K t.1 && (clsB K t.2.1 && decide (PySem.W.exmOne K (.ref (ga K t.1)) (clsVal K t.2.1) = some t.2.2))
def triF (l : List Tri) (c x : Str) : Option Bool := (l.find? fun t => t.1 == c && t.2.1 == x).map (·.2.2)
def miscF (l : List (Str × Gk)) (x : Str) : Gk := match l.find? fun q => q.1 == x with
  | some q => q.2
  | none => .no
def FnE.defD (f : FnE) : DefD := ⟨(f.name, none), f.name, f.name, f.params, f.body, f.scope, [], []⟩
def scopeB (f : FnE) : Bool := decide (f.scope.kind = .function) && (!f.scope.isCoroutine && (!f.scope.isGenerator && (decide f.N.Nodup && (decide (f.N.take f.ps.length = f.ps) &&
  ((f.ps.all fun x => decide (f.scope.names.lookup x = some .local) || decide (f.scope.names.lookup x = some .cell)) && ((f.scope.names.all fun y => decide (y.2 ≠ .free)) && f.kp.all fun i => decide (i < f.ps.length)))))))
theorem scopeB_ok {f : FnE} (h : scopeB f = true) : FnScope f.N f.ps f.scope ∧ ∀ i ∈ f.kp, i < f.ps.length := by
  unfold scopeB at h
  simp only [Bool.and_eq_true, decide_eq_true_eq, Bool.not_eq_true', List.all_eq_true, Bool.or_eq_true] at h
  obtain ⟨h1, h2, h3, h4, h5, h6, h7, h8⟩ := h
  exact ⟨⟨h1, h2, h3, h4, h5, h6, h7⟩, h8⟩
def BindOk (f : FnE) : Prop := ∀ (kV doc pm : Value) (an : Option Addr) (cdv ct : Value) (us : List Value), us.length = f.ps.length → bindArgs (PySem.W.fnOf f.name f.name f.params f.body f.scope .none kV doc pm an cdv ct) ⟨us, []⟩ = pure (f.ps.zip us)
structure Tb where
  tab : List FnE
  misc : List (Str × Gk)
  sub : List Tri
  isn : List Tri
  ini : List IniE := []
def Tb.defs (T : Tb) : List DefD := T.tab.map FnE.defD ++ T.ini.map IniE.defD
def Tb.scs (T : Tb) : Bool := T.tab.all scopeB && T.ini.all fun i => scopeB i.f && iniS i
def BindOkI (i : IniE) : Prop := ∀ (kV doc pm : Value) (an : Option Addr) (cdv ct : Value) (us : List Value), us.length = i.f.ps.length → bindArgs (PySem.W.fnOf i.f.name i.qual i.f.params i.f.body i.f.scope .none kV doc pm an cdv ct) ⟨us, []⟩ = pure (i.f.ps.zip us)
structure Tb.Binds (T : Tb) : Prop where
  tab : ∀ f ∈ T.tab, BindOk f
  ini : ∀ i ∈ T.ini, BindOkI i
def iniF (l : List IniE) (x : Str) : Option (List Str) := (l.find? fun i => i.cls == x).map IniE.ns
def Tb.mis (T : Tb) (x : Str) : Gk := match iniF T.ini x with
  | some ns => .excF ns
  | none => miscF T.misc x
def Tb.pg (T : Tb) : Pg := ⟨T.tab, T.mis, triF T.sub, triF T.isn⟩
def Tb.factsB (T : Tb) (K : PySem.W.Frag) : Bool := T.tab.all (fun f => gloB K f.name) && (T.misc.all (miscB K) && (T.isn.all (isnB K) && (T.sub.all (subB K) && T.ini.all (iniB K))))
section
variable {K : PySem.W.Frag} {h : Heap} {mg : Str → Option Value}
theorem gloB_ok (X : K.In h) (G : h.Ns mainGlobals mg) {x : Str} (c : gloB K x = true) : mg x = some (.ref (ga K x)) := PySem.W.mg_of X G (eqO_ok c)
theorem clsB_ok (X : K.In h) (G : h.Ns mainGlobals mg) {x : Str} (c : clsB K x = true) : ∃ cv, ClsM mg x cv (clsVal K x) := by
  unfold clsB at c
  unfold clsVal
  by_cases e : x = "ValueError"
  · rw [if_pos e] at c ⊢
    exact ⟨_, .blt "ValueError" (PySem.W.mg_none_of X G (eqO_ok c)) (by rw [e]; decide +kernel) (by rw [e]; decide)⟩
  · rw [if_neg e] at c ⊢
    exact ⟨_, .own _ (PySem.W.mg_of X G (eqO_ok c))⟩
theorem miscB_ok (X : K.In h) (G : h.Ns mainGlobals mg) {q : Str × Gk} (c : miscB K q = true) : MiscOk K mg q.1 q.2 := by
  obtain ⟨x, k⟩ := q
  unfold miscB at c
  cases k with
  | no => trivial
  | blt => exact PySem.W.mg_none_of X G (eqO_ok c)
  | fn n F => cases c
  | excF ns => cases c
  | exc =>
    simp only [Bool.and_eq_true, decide_eq_true_eq] at c
    exact ⟨_, gloB_ok X G c.1, c.2.1, c.2.2.1, c.2.2.2.1, c.2.2.2.2⟩
  | cst d =>
    cases d with
    | int i =>
      obtain ⟨t, e⟩ := int_ok (x := x) (i := i) X G c
      exact ⟨.int i, _, e, ⟨t, rfl⟩, fun G => .int i⟩
    | str s =>
      obtain ⟨t, e⟩ := str_ok (x := x) (z := s) X G c
      exact ⟨.str s, _, e, ⟨t, rfl⟩, fun G => .str s⟩
    | _ => cases c
theorem triF_mem {l : List Tri} {c x : Str} {b : Bool} (h : triF l c x = some b) : (c, x, b) ∈ l := by
  unfold triF at h
  obtain ⟨t, h1, h2⟩ := Option.map_eq_some_iff.mp h
  have h3 := List.find?_some h1
  have h4 := List.mem_of_find?_eq_some h1
  simp only [Bool.and_eq_true, beq_iff_eq] at h3
  obtain ⟨t1, t2, t3⟩ := t
  obtain ⟨rfl, rfl⟩ := h3
  subst h2
  exact h4
theorem miscF_ok {l : List (Str × Gk)} (hl : ∀ q ∈ l, MiscOk K mg q.1 q.2) (x : Str) : MiscOk K mg x (miscF l x) := by
  unfold miscF
  cases e : l.find? fun q => q.1 == x with
  | none => trivial
  | some q =>
    have h3 := List.find?_some e
    have h4 := List.mem_of_find?_eq_some e
    have : q.1 = x := by simpa using h3
    rw [← this]
    exact hl q h4
theorem defs_at {T : Tb} {d : DefD} (hd : SaysD [] T.defs K) (hm : d ∈ T.defs) : ∃ fd, FunD K d.name d.qual d.params d.body d.scope (d.dvs K) (d.kws K) (fAd K d.at_) fd := by
  obtain ⟨i, hi, e⟩ := List.mem_iff_getElem.mp hm
  exact hd.def_ i (d := d) (by rw [List.getElem?_eq_getElem hi, e])
theorem Tb.ok {T : Tb} (X : K.In h) (G : h.Ns mainGlobals mg) (hf : T.factsB K = true) (hd : SaysD [] T.defs K) (hs : T.scs = true) (hb : T.Binds) : PgOk T.pg K mg := by
  unfold Tb.factsB at hf
  simp only [Bool.and_eq_true, List.all_eq_true] at hf
  obtain ⟨f1, f2, f3, f4, f5⟩ := hf
  unfold Tb.scs at hs
  simp only [Bool.and_eq_true, List.all_eq_true] at hs
  obtain ⟨s1, s2⟩ := hs
  refine ⟨fun f hm => ?_, fun x => ?_, fun c x b e => ?_, fun c x b e => ?_⟩
  · obtain ⟨fd, F⟩ := defs_at (d := f.defD) hd (List.mem_append_left _ (List.mem_map_of_mem hm))
    have F : FunD K f.name f.name f.params f.body f.scope [] [] (ga K f.name) fd := F
    obtain ⟨s1, s2⟩ := scopeB_ok (s1 f hm)
    exact ⟨_, fd, _, F, gloB_ok X G (f1 f hm), s1, F.bindsN (hb.tab f hm), s2⟩
  · show MiscOk K mg x (T.mis x)
    unfold Tb.mis
    cases e : iniF T.ini x with
    | none => exact miscF_ok (fun q hq => miscB_ok X G (f2 q hq)) x
    | some ns =>
      unfold iniF at e
      obtain ⟨i, e1, e2⟩ := Option.map_eq_some_iff.mp e
      have hx := List.find?_some e1
      have hm := List.mem_of_find?_eq_some e1
      have hx : i.cls = x := by simpa using hx
      subst hx e2
      obtain ⟨fd, F⟩ := defs_at (d := i.defD) hd (List.mem_append_right _ (List.mem_map_of_mem hm))
      have F : FunD K i.f.name i.qual i.f.params i.f.body i.f.scope [] [] (i.at_ K) fd := F
      obtain ⟨q1, q2⟩ := s2 i hm
      have z := f5 i hm
      unfold iniB tollB at z
      unfold iniS at q2
      simp only [Bool.and_eq_true, decide_eq_true_eq, List.all_eq_true, Bool.not_eq_true'] at z q2
      obtain ⟨z1, z2, z3, z4, z5, z6, z7, z8, z9, z10⟩ := z
      obtain ⟨y1, y2, y3, y4⟩ := q2
      exact ⟨_, _, fd, _, _, _, _, _, _, i.f.ps, _, oexB_ok z2, z3, z4, z5, F, (scopeB_ok q1).1, F.bindsN (hb.ini i hm), gloB_ok X G z1, y1, y2, (fun h => by rw [h] at y3; cases y3), y4, gloB_ok X G z6, z7, z8, z9, tollB_cls z10⟩
  · have z := f3 _ (triF_mem e)
    unfold isnB at z
    simp only [Bool.and_eq_true, decide_eq_true_eq] at z
    obtain ⟨cv, hc⟩ := clsB_ok X G z.2.1
    exact ⟨_, cv, _, gloB_ok X G z.1, excCB_ok z.2.2.1, hc, z.2.2.2⟩
  · have z := f4 _ (triF_mem e)
    unfold subB at z
    simp only [Bool.and_eq_true, decide_eq_true_eq] at z
    obtain ⟨cv, hc⟩ := clsB_ok X G z.2.1
    exact ⟨_, cv, _, gloB_ok X G z.1, hc, z.2.2⟩
end
abbrev AlF : Type := Bool × List FnW
def obsF (T : Tb) (K : PySem.W.Frag) : AlF := (T.factsB K && T.defs.all fun d => d.ok K, T.defs.map fun d => fnW K d.at_)
def asF (g : Addr → Option Obj) (n : Nat) : List Addr := asD g n ++ [cStatics]
def hookF (n : Nat) (T : Tb) : PySem.W.Hook where
  α := AlF
  obs := fun s => obsF T (frG s.heap.get? (asF s.heap.get? n))
  val := fun _ => (true, T.defs.map DefD.val)
  says := fun _ h => ∃ K : PySem.W.Frag, K.In h ∧ T.factsB K = true ∧ SaysD [] T.defs K
  of := fun _ _ e => by
    have e1 : (T.factsB _ && T.defs.all fun d => d.ok _) = true := congrArg (fun z : AlF => z.1) e
    have e2 := congrArg (fun z : AlF => z.2) e
    obtain ⟨h1, h2⟩ := ba e1
    refine ⟨_, frG_in, h1, ?_⟩
    show ((([] : List Fa).all fun f => f.ok _) && T.defs.all fun d => d.ok _, _) = (true, _)
    rw [List.all_nil, Bool.true_and, h2]
    exact congrArg (Prod.mk true) e2
  keeps := fun _ _ _ ⟨K, hK, c⟩ k => ⟨K, PySem.W.Frag.In.keeps hK k, c⟩
def obF (n : Nat) (T : Tb) (g : Addr → Option Obj) : AlF := obsF T (frG g (asF g n))
theorem obF_eq {n : Nat} {T : Tb} {g : Addr → Option Obj} {s : Shared} (h : ∀ a, g a = s.heap.get? a) : obF n T g = (hookF n T).obs s := by
  have e : g = s.heap.get? := funext h
  rw [e] <;> rfl
theorem law_holds {T : Tb} {l : PySem.W.OpenLaw} {K : PySem.W.Frag} {h : Heap} {mg : Str → Option Value} {w : World} {fa : Addr} {k : Nat} {f : FnE} {x : Str} (X : K.In h) (G : h.Ns mainGlobals mg) (hm : mg f.name = some (.ref fa)) (hf : T.factsB K = true) (hd : SaysD [] T.defs K) (hs : T.scs = true)
    (hb : T.Binds) (hl : T.pg.look f.name = some f) (hps : f.ps = [x]) (hlaw : ∀ ns : List Int, ns.length ≤ 63 → (∀ z ∈ ns, Builtin.Int.intBits z ≤ 1048576) → ∃ os, T.pg.den k f.name [.dat (.scr (ns.map .int))] = .ok (.dat (.bl true)) os) :
    ∃ (fd : FuncData) (sp : Sp), (∀ (s : Shared) (u : Value), BindsTo s fd ⟨[u], []⟩ [(x, u)]) ∧
      (∀ (H : Hp) (a : Addr) (ns : List Int), ns.length ≤ 63 → (∀ z ∈ ns, Builtin.Int.intBits z ≤ 1048576) → Only H → SqL K H a (ns.map V.int) → sp [.ref a] H (fun v _ => v = .bl true) fun _ _ _ => False) ∧
      ∀ base : Heap, K.In base → base.Ns mainGlobals mg → FnOk l.prog w K mg base (L2.CX l.prog w) (k + 2) fa fd [x] sp := by
  have O := T.ok X G hf hd hs hb
  obtain ⟨m1, _⟩ := look_mem hl
  obtain ⟨fd, F⟩ := defs_at (d := f.defD) hd (List.mem_append_left _ (List.mem_map_of_mem m1))
  have F : FunD K f.name f.name f.params f.body f.scope [] [] (ga K f.name) fd := F
  obtain ⟨s1, s2⟩ := scopeB_ok (List.all_eq_true.mp (Bool.and_eq_true_iff.mp hs).1 f m1)
  have hfa : fa = ga K f.name := by
    have hg : gloB K f.name = true := by
      unfold Tb.factsB at hf
      simp only [Bool.and_eq_true, List.all_eq_true] at hf
      exact hf.1 f m1
    have := (gloB_ok X G hg).symm.trans hm
    cases this; rfl
  subst hfa
  refine ⟨fd, spF K mg 1 (T.pg.den k f.name), fun s u => ?_, fun H a ns hn hbt _ hS => law_sp hS (hlaw ns hn hbt), fun base _ _ => ?_⟩
  · have z := F.bindsA (ps := f.ps) (hb.tab f m1) s [u] (by rw [hps]; rfl)
    rw [hps] at z
    exact z
  · have z := den_ok (Pr := l.prog) (w := w) (base := base) O k f.name f hl (ga K f.name) fd f.name F hm s1 s2
    rw [hps] at z
    exact z
theorem walk_FL {T : Tb} {l : PySem.W.OpenLaw} {k m : Nat} {q : Program} {loose : List Str} {XP : (Str → Option Value) → Heap → Prop} {d : DefRec} {f : FnE} {x : Str} (hn : l.most = some 63) (hdf : d.params.defaults = []) (hr : Room (k + 2) callerA) (hname : d.name = f.name)
    (hs : T.scs = true) (hb : T.Binds) (hl : T.pg.look f.name = some f) (hps : f.ps = [x])
    (hlaw : ∀ ns : List Int, ns.length ≤ 63 → (∀ z ∈ ns, Builtin.Int.intBits z ≤ 1048576) → ∃ os, T.pg.den k f.name [.dat (.scr (ns.map .int))] = .ok (.dat (.bl true)) os) :
    PySem.W.WalkO q loose XP (hookF m T).says l.row.toRowW d [] (fun g vs => PySem.call g vs) := by
  refine Att.attach_callB hn hdf fun w sa sb mg mb fa o pm cd doc a vs ns G Y ho hd hcd hmg hobj hints hlen hbits hg => ?_
  obtain ⟨K, KX, c1, c2⟩ := Y
  rw [hname] at hmg
  obtain ⟨fd, sp, q1, q2, q3⟩ := law_holds (w := w) KX G.T.g hmg c1 c2 hs hb hl hps hlaw
  have h63 : (63 : Nat) ≤ sizeLine := by decide
  refine law_call KX G.T.g G.T.b G.T.builtins G.T.nolimit hg hobj hints (Nat.le_trans hlen h63) hr q3 q1 (fun H hO hS => q2 H a ns hlen hbits hO hS) ?_
  rintro H e s2 ⟨_, _, _, _, _, _, _, _, _, _, _, _, z⟩
  exact z
end FL
namespace FL
open PySem L2
def plcIx (i : Nat) (p : List Nat) (t : Tag) (l : List O) (y : D) : Rs Opd := match kidIx t l.length y with
  | some j => (match l[j]? with
    | some (.dat d) => .ok (.tmp (.dat d))
    | some (.node _ _) => .ok (.plc i (p ++ [j]))
    | some (.pck _) => .bad
    | none => .bad)
  | none => .bad
section
variable {α β : Type} (f g : FS) (fe fa fb fc : FE) (fr : FA) (fos : FOs) (fx : FX) (b h : FB) (ρ : Env) (i : Nat) (d : D)
@[simp] theorem sSeq_ap : sSeq f g ρ = (f ρ).thn g := rfl
@[simp] theorem sNx_ap : sNx ρ = .ok .nx ρ := rfl
@[simp] theorem sBk_ap : sBk ρ = .ok .bk ρ := rfl
@[simp] theorem sCt_ap : sCt ρ = .ok .ct ρ := rfl
@[simp] theorem sRetN_ap : sRetN ρ = .ok (.rt (.dat .non)) ρ := rfl
@[simp] theorem sRaise_ap (c : Str) : sRaise c ρ = .exc c [] ρ := rfl
@[simp] theorem sIf_ap : sIf b f g ρ = (b ρ).thn ρ fun c => if c = true then f else g := rfl
@[simp] theorem sDrop_ap : sDrop fx ρ = (fx ρ).thn fun _ => sNx := rfl
@[simp] theorem sRet_ap (kp : List Nat) : sRet kp fx ρ = (fx ρ).thn fun o ρ1 => toRS (toRet kp ρ1 o) fun a => fun ρ2 => .ok (.rt a) ρ2 := rfl
@[simp] theorem sSet_ap : sSet i fx ρ = (fx ρ).thn fun o ρ1 => toRS (toDat ρ1 o) fun d => fun ρ2 => .ok .nx (ρ2.set i (some (.dat d))) := rfl
@[simp] theorem sOwn_ap : sOwn i fx ρ = (fx ρ).thn fun o ρ1 => toRS (toOwn ρ1 o) fun d => fun ρ2 => .ok .nx (ρ2.set i (some d)) := rfl
@[simp] theorem sIfX_ap : sIfX fx f g ρ = (fx ρ).thn fun o ρ1 => match bX o with
  | some c => if c = true then f ρ1 else g ρ1
  | none => .bad := rfl
@[simp] theorem sAsg_ap (bg : FG) : sAsg bg fx ρ = (fx ρ).thn fun o ρ1 => toRS (toDat ρ1 o) fun d => fun ρ2 => match bg d ρ2 with
  | some ρ3 => .ok .nx ρ3
  | none => .bad := rfl
@[simp] theorem sFor_ap (fi : FI) (bg : FG) : sFor fi bg f ρ = (fi ρ).thn ρ fun l => forL bg f l := rfl
@[simp] theorem muAug_ap (gg : D → D → Rs O) : muAug gg i fe ρ = match ρ[i]? with
  | some (some (.dat x)) => (dE fe ρ).thn ρ fun y => fun ρ => (gg x y).thn ρ fun o => fun ρ => .ok .nx (ρ.set i (some o))
  | _ => .bad := rfl
@[simp] theorem sSto_ap (M : Mu) : sSto M fx fe fa ρ = (fx ρ).thn fun o ρ1 => toRS (toOwn ρ1 o) fun o2 => fun ρ2 => (fe ρ2).thn ρ2 fun w => fun ρ2 => match w with
  | .plc i p => (dE fa ρ2).thn ρ2 fun d => fun ρ2 => (muRes M i p [.dat d, o2] ρ2).thn fun _ => sNx
  | .tmp _ => .bad := rfl
@[simp] theorem lft_ap : lft fe ρ = match fe ρ with
  | .ok o => .ok o ρ
  | .exc c fs => .exc c fs ρ
  | .bad => .bad := rfl
@[simp] theorem xMut_ap (T : String) (M : Mu) : xMut T M fe fos ρ = match fe ρ with
  | .ok (.plc i p) => if isT T (getP ρ i p) = true then (match fos ρ with
    | .ok os => (match tmps os with
      | some args => muRes M i p args ρ
      | none => .bad)
    | .exc c fs => .exc c fs ρ
    | .bad => .bad) else .bad
  | .exc c fs => .exc c fs ρ
  | _ => .bad := rfl
@[simp] theorem eVar_ap : eVar i ρ = match ρ[i]? with
  | some (some (.dat d)) => .ok (.tmp (.dat d))
  | some (some (.node _ _)) => .ok (.plc i [])
  | some (some (.pck _)) => .ok (.plc i [])
  | _ => .bad := rfl
@[simp] theorem eK_ap : eK d ρ = .ok (.tmp (.dat d)) := rfl
@[simp] theorem rdE_ap : rdE fe ρ = (fe ρ).bnd fun o => toRs (rd ρ o) := rfl
@[simp] theorem dE_ap : dE fe ρ = (fe ρ).bnd fun o => toRs (dOf o) := rfl
@[simp] theorem bE_ap : bE fe ρ = ((fe ρ).bnd fun o => toRs (dOf o)).bnd fun d => toRs (bOf d) := rfl
@[simp] theorem okT_ap (o : O) : okT o = .ok (.tmp o) := rfl
@[simp] theorem eOp_ap (q : D → D → Rs O) : eOp q fa fb ρ = (rdE fa ρ).bnd fun x => (rdE fb ρ).bnd fun y => (q x y).bnd okT := rfl
@[simp] theorem eUn_ap (q : D → Rs O) : eUn q fa ρ = (rdE fa ρ).bnd fun x => (q x).bnd okT := rfl
@[simp] theorem eFn_ap (q : List D → Rs O) : eFn q fr ρ = (fr ρ).bnd fun ds => (q ds).bnd okT := rfl
@[simp] theorem eAnd_ap : eAnd b fe ρ = (b ρ).bnd fun c => if c = true then fe ρ else .ok (.tmp (.dat (.bl false))) := rfl
@[simp] theorem eOr_ap : eOr b fe ρ = (b ρ).bnd fun c => if c = true then .ok (.tmp (.dat (.bl true))) else fe ρ := rfl
@[simp] theorem eNot_ap : eNot b ρ = (b ρ).bnd fun c => .ok (.tmp (.dat (.bl (!c)))) := rfl
@[simp] theorem eIf_ap : eIf b fa fb ρ = (b ρ).bnd fun c => if c = true then fa ρ else fb ρ := rfl
@[simp] theorem bAnd_ap : bAnd b h ρ = (b ρ).bnd fun c => if c = true then h ρ else .ok false := rfl
@[simp] theorem bOr_ap : bOr b h ρ = (b ρ).bnd fun c => if c = true then .ok true else h ρ := rfl
@[simp] theorem bNot_ap : bNot b ρ = (b ρ).bnd fun c => .ok (!c) := rfl
@[simp] theorem bYes_ap : bYes ρ = .ok true := rfl
@[simp] theorem eChain_ap (q q2 : D → D → Rs O) : eChain q q2 fa fb fc ρ = (rdE fa ρ).bnd fun x => (rdE fb ρ).bnd fun y => ((q x y).bnd okT).bnd fun z => (toRs ((dOf z).bind bOf)).bnd fun k =>
  if k = true then (rdE fc ρ).bnd fun z => (q2 y z).bnd okT else .ok (.tmp (.dat (.bl false))) := rfl
@[simp] theorem aNil_ap : aNil ρ = .ok [] := rfl
@[simp] theorem aCons_ap : aCons fe fr ρ = (dE fe ρ).bnd fun d => (fr ρ).bnd fun ds => .ok (d :: ds) := rfl
@[simp] theorem rCons_ap : rCons fe fr ρ = (rdE fe ρ).bnd fun d => (fr ρ).bnd fun ds => .ok (d :: ds) := rfl
@[simp] theorem oNil_ap : oNil ρ = .ok [] := rfl
@[simp] theorem oCons_ap : oCons fe fos ρ = (fe ρ).bnd fun o => (fos ρ).bnd fun os => .ok (o :: os) := rfl
@[simp] theorem oNo_ap : oNo ρ = .ok none := rfl
@[simp] theorem oSo_ap : oSo fe ρ = (rdE fe ρ).bnd fun d => toRs ((iOf d).map some) := rfl
@[simp] theorem eSl_ap (fl fh : FO) : eSl fe fl fh ρ = (rdE fe ρ).bnd fun x => (fl ρ).bnd fun lo => (fh ρ).bnd fun hi => (dSl x lo hi).bnd okT := rfl
@[simp] theorem iSeq_ap (q : FD) : iSeq q ρ = (q ρ).bnd fun d => toRs (seqD d) := rfl
@[simp] theorem iRng_ap : iRng fr ρ = (fr ρ).bnd fun ds => toRs (rngD ds) := rfl
@[simp] theorem eLc_ap (fi : FI) (bg : FG) (vs : List Nat) : eLc fi bg b fe vs ρ = (fi ρ).bnd fun l => lcO (compL bg b fe (wipeE ρ vs) l) := rfl
@[simp] theorem eTry_ap : eTry fe ρ = match fe ρ with
  | .bad => ofFz (fe (frzEs ρ))
  | r => r := rfl
@[simp] theorem eCall_ap (F : List O → RF) : eCall F fos ρ = (fos ρ).bnd fun os => callO F ρ os := rfl
@[simp] theorem eIsX_ap (a0 : Addr) (d0 : Option Addr) (r : Option Bool) : eIsX a0 d0 r fe ρ = eIsE a0 d0 r fe ρ := rfl
@[simp] theorem eIsE_ap (a0 : Addr) (d0 : Option Addr) (r : Option Bool) : eIsE a0 d0 r fe ρ = (dE fe ρ).bnd fun d => (dIsE a0 d0 r d).bnd okT := rfl
@[simp] theorem bName_ap : bName i d ρ = some (ρ.set i (some (.dat d))) := rfl
@[simp] theorem bNil_ap : bNil [] ρ = some ρ := rfl
@[simp] theorem bCons_ap (bg : FG) (bs : List D → Env → Option Env) (ds : List D) : bCons bg bs (d :: ds) ρ = (bg d ρ).bind (bs ds) := rfl
@[simp] theorem rd_tmp (o : O) : rd ρ (.tmp o) = freeze o := rfl
@[simp] theorem dOf_tmp (o : O) : dOf (.tmp o) = freeze o := rfl
@[simp] theorem bOf_bl (c : Bool) : bOf (.bl c) = some c := rfl
@[simp] theorem freeze_dat : freeze (.dat d) = some d := rfl
@[simp] theorem eIx_ap : eIx fa fb ρ = (fa ρ).bnd fun o => match o with
  | .tmp o => (toRs (freeze o)).bnd fun x => (rdE fb ρ).bnd fun y => (dIx2 x y).bnd okT
  | .plc i p => (rdE fb ρ).bnd fun y => match getP ρ i p with
    | some (.node t l) => plcIx i p t l y
    | _ => .bad := rfl
@[simp] theorem eIn_ap (neg : Bool) : eIn neg fa fb ρ = (rdE fa ρ).bnd fun x => (fb ρ).bnd fun o => match o with
  | .tmp o => (toRs ((freeze o).bind (inD x))).bnd fun b => .ok (.tmp (.dat (.bl (b != neg))))
  | .plc i p => (match getP ρ i p with
    | some (.node t l) => (toRs (kidIn t l x)).bnd fun b => .ok (.tmp (.dat (.bl (b != neg))))
    | _ => .bad) := rfl
@[simp] theorem eDnewK_ap : eDnew false ρ = .ok (.tmp (.node (.dct []) [])) := rfl
@[simp] theorem eDnewT_ap : eDnew true ρ = .ok (.tmp (.node (.dcT []) [])) := rfl
@[simp] theorem eD1_ap : eD1 fa fb ρ = (dE fa ρ).bnd fun k => (fb ρ).bnd fun o => match keyD k, o with
  | some k, .tmp o => .ok (.tmp (.node (.dct [k]) [o]))
  | _, _ => .bad := rfl
@[simp] theorem keyD_int (k : Int) : keyD (.int k) = some (.inl k) := rfl
@[simp] theorem keyD_str (k : Str) : keyD (.str k) = some (.inr k) := rfl
@[simp] theorem iEnA_ap : iEnA fr ρ = (fr ρ).bnd fun ds => toRs (enD2 ds) := rfl
@[simp] theorem iZpA_ap : iZpA fr ρ = (fr ρ).bnd fun ds => toRs (zpD2 ds) := rfl
@[simp] theorem iRevD_ap (q : FD) : iRevD q ρ = (q ρ).bnd fun d => toRs (revD d) := rfl
@[simp] theorem enD2_tup (l : List D) : enD2 [.tup l] = some (enumD l) := rfl
@[simp] theorem enD2_lst (l : List D) : enD2 [.lst l] = some (enumD l) := rfl
@[simp] theorem zpD2_tup (l l2 : List D) : zpD2 [.tup l, .tup l2] = some (zipD l l2) := rfl
@[simp] theorem zpD2_lst (l l2 : List D) : zpD2 [.lst l, .lst l2] = some (zipD l l2) := rfl
@[simp] theorem dIx2_lst (l : List D) (y : D) : dIx2 (.lst l) y = dIx (.lst l) y := rfl
@[simp] theorem dIx2_scr (l : List D) (y : D) : dIx2 (.scr l) y = dIx (.scr l) y := rfl
@[simp] theorem dIx2_tup (l : List D) (y : D) : dIx2 (.tup l) y = dIx (.tup l) y := rfl
@[simp] theorem dIx2_str (l : Str) (y : D) : dIx2 (.str l) y = dIx (.str l) y := rfl
theorem plcIx_lst {i : Nat} {p : List Nat} {l : List O} {k : Int} {d : D} (h : atI l k = some (.dat d)) : plcIx i p .lst l (.int k) = .ok (.tmp (.dat d)) := by
  unfold atI at h
  unfold plcIx kidIx
  cases e : ixN l.length k with
  | none => rw [e] at h; cases h
  | some j =>
    rw [e] at h
    have h : l[j]? = some (.dat d) := h
    simp only [e, h]
theorem plcIx_node {i : Nat} {p : List Nat} {l : List O} {k : Nat} {t : Tag} {l2 : List O} (h : l[k]? = some (.node t l2)) : plcIx i p .lst l (.int (k : Int)) = .ok (.plc i (p ++ [k])) := by
  obtain ⟨hlt, _⟩ := List.getElem?_eq_some_iff.mp h
  have e : ixN l.length (k : Int) = some k := by
    unfold ixN
    rw [if_pos (by omega), if_pos (by omega), Int.toNat_natCast]
  unfold plcIx kidIx
  simp only [e, h]
@[simp] theorem xTup_ap : xTup fos ρ = match fos ρ with
  | .ok os => (match toDats ρ os with
    | some (ds, ρ') => if ds.length ≤ sizeLine then .ok (.tmp (.dat (.tup ds))) ρ' else .bad
    | none => .bad)
  | .exc c fs => .exc c fs ρ
  | .bad => .bad := rfl
@[simp] theorem toDats_nil : toDats ρ [] = some ([], ρ) := rfl
@[simp] theorem toDats_t (o : O) (os : List Opd) : toDats ρ (.tmp o :: os) = (freeze o).bind fun x => (toDats ρ os).map fun q => (x :: q.1, q.2) := by
  show (match (freeze o).map fun d => (d, ρ) with
    | some (d, ρ1) => (match toDats ρ1 os with
      | some (ds, ρ2) => some (d :: ds, ρ2)
      | none => none)
    | none => none) = _
  cases freeze o with
  | none => rfl
  | some x => cases h : toDats ρ os <;> simp [h]
@[simp] theorem xCall_ap (F : List O → RF) : xCall F fos ρ = match fos ρ with
  | .ok os => (match onePlc os, xArgs ρ os with
    | some (j, i, p), some args => xBack j i p ρ (F args)
    | none, _ => lft (eCall F fos) ρ
    | _, none => .bad)
  | .exc c fs => .exc c fs ρ
  | .bad => .bad := rfl
end
end FL
namespace FL
open PySem L2
theorem szl {n : Nat} (h : n ≤ 16777216) : n ≤ sizeLine := by
  have e : sizeLine = 16777216 := by decide
  omega
theorem szl_lt {n : Nat} (h : n < 16777216) : n < sizeLine := by
  have e : sizeLine = 16777216 := by decide
  omega
@[simp] theorem szE : sizeLine = 16777216 := by decide
@[simp] theorem freezes_nil : freezes [] = some [] := rfl
@[simp] theorem freezes_cons (d : D) (os : List O) : freezes (.dat d :: os) = (freezes os).map (d :: ·) := by
  show (match freeze (.dat d), freezes os with
    | some d, some ds => some (d :: ds)
    | _, _ => none) = _
  rw [show freeze (.dat d) = some d from rfl]
  cases freezes os <;> rfl
@[simp] theorem freezes_map : ∀ l : List D, freezes (l.map .dat) = some l
  | [] => rfl
  | d :: l => by rw [List.map_cons, freezes_cons, freezes_map l]; rfl
@[simp] theorem freezes_map2 {α : Type} (g : α → D) (l : List α) : freezes (l.map fun x => .dat (g x)) = some (l.map g) := by
  have := freezes_map (l.map g)
  rwa [List.map_map] at this
@[simp] theorem freeze_lst (l : List O) : freeze (.node .lst l) = (freezes l).map .lst := by
  show (match freezes l with
    | none => none
    | some ds => some (match Tag.lst with | .lst => D.lst ds | t => .obj t ds)) = _
  cases freezes l <;> rfl
@[simp] theorem freezes_map3 {α : Type} (g : α → D) (l : List α) : freezes (l.map (O.dat ∘ g)) = some (l.map g) := freezes_map2 g l
theorem freezes_co (o : O) (os : List O) : freezes (o :: os) = (freeze o).bind fun d => (freezes os).map (d :: ·) := by
  show (match freeze o, freezes os with
    | some d, some ds => some (d :: ds)
    | _, _ => none) = _
  cases freeze o <;> cases freezes os <;> rfl
@[simp] theorem freezes_app : ∀ a b : List O, freezes (a ++ b) = (freezes a).bind fun x => (freezes b).map (x ++ ·)
  | [], b => by cases h : freezes b <;> simp [h]
  | o :: a, b => by
    rw [List.cons_append, freezes_co, freezes_co, freezes_app a b]
    cases freeze o <;> cases freezes a <;> cases freezes b <;> rfl
@[simp] theorem dats_nil : dats [] = some [] := rfl
@[simp] theorem dats_cons (d : D) (os : List O) : dats (.dat d :: os) = (dats os).map (d :: ·) := rfl
@[simp] theorem dats_map : ∀ l : List D, dats (l.map .dat) = some l
  | [] => rfl
  | d :: l => by rw [List.map_cons, dats_cons, dats_map l]; rfl
@[simp] theorem dats_map2 {α : Type} (g : α → D) (l : List α) : dats (l.map fun x => .dat (g x)) = some (l.map g) := by
  have := dats_map (l.map g)
  rwa [List.map_map] at this
@[simp] theorem dats_map3 {α : Type} (g : α → D) (l : List α) : dats (l.map (O.dat ∘ g)) = some (l.map g) := dats_map2 g l
@[simp] theorem dats_app : ∀ a b : List O, dats (a ++ b) = (dats a).bind fun x => (dats b).map (x ++ ·)
  | [], b => by cases h : dats b <;> simp [h]
  | .dat d :: a, b => by
    rw [List.cons_append, dats_cons, dats_cons, dats_app a b]
    cases dats a <;> cases dats b <;> rfl
  | .node _ _ :: a, b => rfl
  | .pck _ :: a, b => rfl
theorem dats_freezes : ∀ {l : List O} {ds : List D}, dats l = some ds → freezes l = some ds
  | [], _, h => h
  | .dat d :: l, ds, h => by
    rw [dats_cons] at h
    rw [freezes_cons]
    cases e : dats l with
    | none => rw [e] at h; cases h
    | some x => rw [e] at h; rw [dats_freezes e]; exact h
  | .node _ _ :: l, ds, h => by cases h
  | .pck _ :: l, ds, h => by cases h
@[simp] theorem mkD_lst (l : List D) : mkD .lst l = .lst l := rfl
section
variable (ρ : Env) (i : Nat) (o o' : O) (d : D) (kp : List Nat) (F : List O → RF) (os : List O) (ops : List Opd)
@[simp] theorem getP_nil : getP ρ i [] = ρ[i]?.join := by
  unfold getP
  cases ρ[i]? with
  | none => rfl
  | some x => cases x <;> simp
@[simp] theorem rd_plc : rd ρ (.plc i []) = match ρ[i]? with
  | some (some (.node t l)) => (dats l).map (mkD t)
  | some (some (.pck l)) => (dats l).map .tup
  | _ => none := by
  cases z : ρ[i]? with
  | none => simp [rd, z]
  | some x =>
    cases x with
    | none => simp [rd, z]
    | some o => cases o <;> simp [rd, z]
theorem putP_nil : putP ρ i [] o' = match ρ[i]? with
  | some (some _) => ρ.set i (some o')
  | _ => ρ := by
  unfold putP
  cases ρ[i]? with
  | none => rfl
  | some x => cases x <;> simp
@[simp] theorem dOf_plc (p : List Nat) : dOf (.plc i p) = none := rfl
@[simp] theorem argD_tmp : argD ρ (.tmp o) = freeze o := rfl
@[simp] theorem argD_plc (p : List Nat) : argD ρ (.plc i p) = (getP ρ i p).bind freeze := rfl
@[simp] theorem argDs_nil : argDs ρ [] = some [] := rfl
@[simp] theorem argDs_cons (x : Opd) : argDs ρ (x :: ops) = (argD ρ x).bind fun d => (argDs ρ ops).map (d :: ·) := by
  show (match argD ρ x, argDs ρ ops with
    | some d, some ds => some (d :: ds)
    | _, _ => none) = _
  cases argD ρ x <;> cases argDs ρ ops <;> rfl
@[simp] theorem isTmp_tmp : isTmp (.tmp o) = true := rfl
@[simp] theorem isTmp_plc (p : List Nat) : isTmp (.plc i p) = false := rfl
@[simp] theorem callO_ap : callO F ρ ops = match argDs ρ ops with
  | some ds => ofRF (ops.all isTmp) (F (ds.map .dat))
  | none => .bad := rfl
@[simp] theorem ofRF_ok (t : Bool) : ofRF t (.ok o os) = if t || cleanO o then .ok (.tmp o) else .bad := rfl
@[simp] theorem ofRF_exc (t : Bool) (c : Str) (fs : List (Str × D)) : ofRF t (.exc c fs os) = if t || cleans (fs.map (·.2)) then .exc c fs else .bad := rfl
@[simp] theorem toDat_t : toDat ρ (.tmp o) = (freeze o).map fun d => (d, ρ) := rfl
@[simp] theorem toOwn_t : toOwn ρ (.tmp o) = some (o, ρ) := rfl
@[simp] theorem toRet_t : toRet kp ρ (.tmp o) = some (o, ρ) := rfl
@[simp] theorem toRet_p (p : List Nat) : toRet kp ρ (.plc i p) = if p = [] ∧ i ∉ kp then (match ρ[i]? with
      | some (some o) => some (o, ρ.set i none)
      | _ => none) else toOwn ρ (.plc i p) := rfl
@[simp] theorem outs_nil (j : Nat) : outs kp j [] ρ = some [] := by cases ρ <;> rfl
@[simp] theorem outs_cons (j : Nat) (x : Option O) : outs kp j (.dat d :: os) (x :: ρ) = if j ∈ kp then (match x with
      | some o' => (outs kp (j + 1) os ρ).map (o' :: ·)
      | none => none) else (outs kp (j + 1) os ρ).map (.dat d :: ·) := rfl
theorem outs_none : ∀ (ds : List D) (j : Nat) (ρ : Env), ds.length ≤ ρ.length → outs [] j (ds.map .dat) ρ = some (ds.map .dat)
  | [], j, ρ, _ => outs_nil _ _ _
  | d :: ds, j, x :: ρ, h => by
    rw [List.map_cons, outs_cons, if_neg (by simp), outs_none ds (j + 1) ρ (by simpa using h)]
    rfl
  | d :: ds, j, [], h => by simp at h
@[simp] theorem endF_rt : endF kp os (.ok (.rt o) ρ) = match outs kp 0 os ρ with
  | some os' => .ok o os'
  | none => .bad := rfl
@[simp] theorem endF_nx : endF kp os (.ok .nx ρ) = match outs kp 0 os ρ with
  | some os' => .ok (.dat .non) os'
  | none => .bad := rfl
@[simp] theorem endF_exc (c : Str) (fs : List (Str × D)) : endF kp os (.exc c fs ρ) = match outs kp 0 os ρ with
  | some os' => .exc c fs os'
  | none => .bad := rfl
end
section
variable (a b : Int) (l l2 : List D) (s t : Str)
@[simp] theorem dAdd_int : dAdd (.int a) (.int b) = .ok (.dat (.int (a + b))) := rfl
@[simp] theorem dAdd_lst : dAdd (.lst l) (.lst l2) = if l.length + l2.length ≤ sizeLine then .ok (.node .lst ((l ++ l2).map .dat)) else .bad := rfl
@[simp] theorem dAdd_tup : dAdd (.tup l) (.tup l2) = if l.length + l2.length ≤ sizeLine then .ok (.dat (.tup (l ++ l2))) else .bad := rfl
@[simp] theorem dAdd_str : dAdd (.str s) (.str t) = if s.length + t.length ≤ sizeLine then .ok (.dat (.str (s ++ t))) else .bad := rfl
@[simp] theorem dAug_int : dAug (.int a) (.int b) = .ok (.dat (.int (a + b))) := rfl
@[simp] theorem dSub_int : dSub (.int a) (.int b) = .ok (.dat (.int (a - b))) := rfl
@[simp] theorem dMul_int : dMul (.int a) (.int b) = if okMul a b then .ok (.dat (.int (a * b))) else .bad := rfl
@[simp] theorem dMul_lst : dMul (.lst l) (.int b) = if okRep l.length b then .ok (.node .lst ((List.replicate b.toNat l).flatten.map .dat)) else .bad := rfl
theorem log_sm {b : Int} (h : 0 < b) (h2 : b < 10 ^ 60) : b.natAbs.log2 < 9000 := by
  have h3 : b.natAbs < 2 ^ 200 := by
    have : (10 : Int) ^ 60 < 2 ^ 200 := by decide
    omega
  have := (Nat.log2_lt (n := b.natAbs) (k := 200) (by omega)).mpr h3
  omega
@[simp] theorem dDiv_pos {b : Int} (h : 0 < b) (h2 : b < 10 ^ 60) : dDiv (.int a) (.int b) = .ok (.dat (.int (a / b))) := if_pos ⟨h, log_sm h h2⟩
@[simp] theorem dMod_pos {b : Int} (h : 0 < b) : dMod (.int a) (.int b) = .ok (.dat (.int (a % b))) := if_pos h
@[simp] theorem dPow_pos {a b : Int} (h : 0 ≤ b) (h2 : b ≤ 1000000) (h3 : a.natAbs < 2 ^ 64) : dPow (.int a) (.int b) = .ok (.dat (.int (a ^ b.toNat))) := if_pos ⟨h, h2, h3⟩
@[simp] theorem dNeg_int : dNeg (.int a) = .ok (.dat (.int (-a))) := rfl
@[simp] theorem dLt_int : dLt (.int a) (.int b) = .ok (.dat (.bl (decide (a < b)))) := rfl
@[simp] theorem dLe_int : dLe (.int a) (.int b) = .ok (.dat (.bl (decide (a ≤ b)))) := rfl
@[simp] theorem dGt_int : dGt (.int a) (.int b) = .ok (.dat (.bl (decide (b < a)))) := rfl
@[simp] theorem dGe_int : dGe (.int a) (.int b) = .ok (.dat (.bl (decide (b ≤ a)))) := rfl
@[simp] theorem dEq_ok {a b : D} (h : okE 8 a = true) (h2 : okE 8 b = true) : dEq a b = .ok (.dat (.bl (eqD a b))) := if_pos ⟨h, h2⟩
@[simp] theorem dNe_ok {a b : D} (h : okE 8 a = true) (h2 : okE 8 b = true) : dNe a b = .ok (.dat (.bl (!eqD a b))) := if_pos ⟨h, h2⟩
@[simp] theorem okE_int (n : Nat) : okE n (.int a) = true := by cases n <;> rfl
@[simp] theorem okE_bl (n : Nat) (c : Bool) : okE n (.bl c) = true := by cases n <;> rfl
@[simp] theorem okE_non (n : Nat) : okE n .non = true := by cases n <;> rfl
@[simp] theorem okEs_nil (n : Nat) : okEs n [] = true := by cases n <;> rfl
@[simp] theorem okEs_cons (n : Nat) (d : D) : okEs n (d :: l) = (okE n d && okEs n l) := by cases n <;> rfl
@[simp] theorem okE_tup (n : Nat) : okE (n + 1) (.tup l) = okEs n l := rfl
@[simp] theorem okE_lst (n : Nat) : okE (n + 1) (.lst l) = okEs n l := rfl
@[simp] theorem okE_scr (n : Nat) : okE (n + 1) (.scr l) = okEs n l := rfl
theorem okEs_all {α : Type} {n : Nat} {g : α → D} : ∀ {l : List α}, (∀ x ∈ l, okE n (g x) = true) → okEs n (l.map g) = true
  | [], _ => by simp
  | x :: l, h => by
    rw [List.map_cons, okEs_cons, h x List.mem_cons_self, okEs_all fun y hy => h y (List.mem_cons_of_mem _ hy)]
    rfl
@[simp] theorem okEs_int (n : Nat) (l : List Int) : okEs n (l.map D.int) = true := okEs_all fun x _ => okE_int x n
@[simp] theorem eqD_int : eqD (.int a) (.int b) = decide (a = b) := rfl
@[simp] theorem eqD_bl (c c2 : Bool) : eqD (.bl c) (.bl c2) = (c == c2) := rfl
@[simp] theorem eqD_tup : eqD (.tup l) (.tup l2) = eqDs l l2 := rfl
@[simp] theorem eqD_lst : eqD (.lst l) (.lst l2) = eqDs l l2 := rfl
@[simp] theorem eqD_ls : eqD (.lst l) (.scr l2) = eqDs l l2 := rfl
@[simp] theorem eqD_sl : eqD (.scr l) (.lst l2) = eqDs l l2 := rfl
@[simp] theorem eqD_ss : eqD (.scr l) (.scr l2) = eqDs l l2 := rfl
@[simp] theorem eqDs_nil : eqDs [] [] = true := rfl
@[simp] theorem eqDs_cons (x y : D) : eqDs (x :: l) (y :: l2) = (eqD x y && eqDs l l2) := rfl
@[simp] theorem eqDs_nc (x : D) : eqDs [] (x :: l) = false := rfl
@[simp] theorem eqDs_cn (x : D) : eqDs (x :: l) [] = false := rfl
theorem eqDs_map {α : Type} [DecidableEq α] {g : α → D} (hg : ∀ x y, eqD (g x) (g y) = decide (x = y)) : ∀ l l2 : List α, eqDs (l.map g) (l2.map g) = decide (l = l2)
  | [], [] => by simp
  | [], y :: l2 => by simp
  | x :: l, [] => by simp
  | x :: l, y :: l2 => by
    rw [List.map_cons, List.map_cons, eqDs_cons, hg, eqDs_map hg l l2, Bool.decide_and_eq]
where
  Bool.decide_and_eq {x y : α} {l l2 : List α} : (decide (x = y) && decide (l = l2)) = decide (x :: l = y :: l2) := by
    rw [← Bool.decide_and, decide_eq_decide, List.cons.injEq]
@[simp] theorem eqDs_int (l l2 : List Int) : eqDs (l.map D.int) (l2.map D.int) = decide (l = l2) := eqDs_map eqD_int l l2
@[simp] theorem dLen_lst : dLen [.lst l] = .ok (.dat (.int l.length)) := rfl
@[simp] theorem dLen_scr : dLen [.scr l] = .ok (.dat (.int l.length)) := rfl
@[simp] theorem dLen_tup : dLen [.tup l] = .ok (.dat (.int l.length)) := rfl
@[simp] theorem dList_lst : dList [.lst l] = .ok (.node .lst (l.map .dat)) := rfl
@[simp] theorem dList_scr : dList [.scr l] = .ok (.node .lst (l.map .dat)) := rfl
@[simp] theorem dList_tup : dList [.tup l] = .ok (.node .lst (l.map .dat)) := rfl
@[simp] theorem dTuple_lst : dTuple [.lst l] = .ok (.dat (.tup l)) := rfl
@[simp] theorem dTuple_scr : dTuple [.scr l] = .ok (.dat (.tup l)) := rfl
@[simp] theorem dTuple_tup : dTuple [.tup l] = .ok (.dat (.tup l)) := rfl
@[simp] theorem dTup_ap : dTup l = if l.length ≤ sizeLine then .ok (.dat (.tup l)) else .bad := rfl
@[simp] theorem dLst_ap : dLst l = if l.length ≤ sizeLine then .ok (.node .lst (l.map .dat)) else .bad := rfl
@[simp] theorem seqD_lst : seqD (.lst l) = some l := rfl
@[simp] theorem seqD_scr : seqD (.scr l) = some l := rfl
@[simp] theorem seqD_tup : seqD (.tup l) = some l := rfl
@[simp] theorem iOf_int : iOf (.int a) = some a := rfl
@[simp] theorem dSl_lst (lo hi : Option Int) : dSl (.lst l) lo hi = .ok (.node .lst ((cutD l lo hi).map .dat)) := rfl
@[simp] theorem dSl_scr (lo hi : Option Int) : dSl (.scr l) lo hi = .ok (.node .lst ((cutD l lo hi).map .dat)) := rfl
@[simp] theorem dSl_tup (lo hi : Option Int) : dSl (.tup l) lo hi = .ok (.dat (.tup (cutD l lo hi))) := rfl
theorem cut_map {α β : Type} (g : α → β) (l : List α) (lo hi : Option Int) : cutD (l.map g) lo hi = (cutD l lo hi).map g := by
  unfold cutD
  rw [List.map_take, List.map_drop, List.length_map]
theorem cut_to {α : Type} (l : List α) {n : Int} (h : 0 ≤ n) : cutD l none (some n) = l.take n.toNat := by
  unfold cutD HT.sIx
  dsimp only
  rw [if_neg (by omega), List.drop_zero, Nat.sub_zero, List.take_eq_take_iff]
  omega
theorem cut_from {α : Type} (l : List α) {n : Int} (h : 0 ≤ n) : cutD l (some n) none = l.drop n.toNat := by
  unfold cutD HT.sIx
  dsimp only
  rw [if_neg (by omega)]
  by_cases z : n.toNat ≤ l.length
  · rw [Nat.min_eq_left z, List.take_of_length_le (by rw [List.length_drop]; omega)]
  · rw [Nat.min_eq_right (by omega), List.drop_length, List.drop_of_length_le (by omega)]
    simp
theorem atI_ok {α : Type} {l : List α} {i : Int} {k : Nat} {x : α} (h : i = (k : Int)) (hx : l[k]? = some x) : atI l i = some x := by
  obtain ⟨hk, e⟩ := List.getElem?_eq_some_iff.mp hx
  unfold atI ixN
  subst h
  rw [if_pos (by omega), if_pos (by omega), Option.bind_some, Int.toNat_natCast]
  exact hx
theorem atI_map {α β : Type} (g : α → β) (l : List α) (i : Int) : atI (l.map g) i = (atI l i).map g := by
  unfold atI
  rw [List.length_map]
  cases ixN l.length i with
  | none => rfl
  | some j => simp
theorem dIx_lst {i : Int} {d : D} (h : atI l i = some d) : dIx (.lst l) (.int i) = .ok (.dat d) := by
  show (match atI l i with
    | some d => _
    | none => _) = _
  rw [h]
theorem dIx_scr {i : Int} {d : D} (h : atI l i = some d) : dIx (.scr l) (.int i) = .ok (.dat d) := by
  show (match atI l i with
    | some d => _
    | none => _) = _
  rw [h]
theorem dIx_tup {i : Int} {d : D} (h : atI l i = some d) : dIx (.tup l) (.int i) = .ok (.dat d) := by
  show (match atI l i with
    | some d => _
    | none => _) = _
  rw [h]
end
theorem rng_one {j : Int} (h0 : -(2 ^ 62) ≤ j) (h : j < 2 ^ 62) : rngD [.int j] = some (rangeD 0 j) := by
  show (if smallR j = true then _ else _) = _
  rw [if_pos]
  exact decide_eq_true (show okSm j from ⟨h0, h⟩)
theorem rng_two {i j : Int} (h0 : -(2 ^ 62) ≤ i) (h1 : i < 2 ^ 62) (h2 : -(2 ^ 62) ≤ j) (h : j < 2 ^ 62) : rngD [.int i, .int j] = some (rangeD i j) := by
  show (if (smallR i && smallR j) = true then _ else _) = _
  rw [if_pos]
  rw [Bool.and_eq_true]
  exact ⟨decide_eq_true (show okSm i from ⟨h0, h1⟩), decide_eq_true (show okSm j from ⟨h2, h⟩)⟩
def ilst (lo hi : Int) : List Int := (List.range (hi - lo).toNat).map fun (i : Nat) => lo + (i : Int)
theorem rangeD_ilst (lo hi : Int) : rangeD lo hi = (ilst lo hi).map D.int := by
  unfold rangeD ilst
  rw [List.map_map]
  rfl
@[simp] theorem ilst_length (lo hi : Int) : (ilst lo hi).length = (hi - lo).toNat := by simp [ilst]
theorem mem_ilst {lo hi x : Int} : x ∈ ilst lo hi ↔ lo ≤ x ∧ x < hi := by
  unfold ilst
  simp only [List.mem_map, List.mem_range]
  constructor
  · rintro ⟨i, h, rfl⟩
    omega
  · intro h
    exact ⟨(x - lo).toNat, by omega, by omega⟩
section
variable {b : FG} {g : FB} {f : FE} {ρ : Env}
@[simp] theorem compL_nil : compL b g f ρ [] = some [] := rfl
theorem compL_mf {p : D → Bool} {h : D → O} : ∀ {l : List D}, (∀ d ∈ l, ∃ ρ1, b d ρ = some ρ1 ∧ g ρ1 = .ok (p d) ∧ (p d = true → f ρ1 = .ok (.tmp (h d)))) → compL b g f ρ l = some ((l.filter p).map h)
  | [], _ => rfl
  | d :: l, H => by
    obtain ⟨ρ1, h1, h2, h3⟩ := H d List.mem_cons_self
    have ih := compL_mf fun e he => H e (List.mem_cons_of_mem _ he)
    have e : compL b g f ρ (d :: l) = (match b d ρ with
      | none => none
      | some ρ1 => match g ρ1 with
        | .ok true => (match f ρ1 with
          | .ok (.tmp o) => (compL b g f ρ l).map fun os => o :: os
          | _ => none)
        | .ok false => compL b g f ρ l
        | _ => none) := rfl
    rw [e, h1]
    dsimp only
    rw [h2]
    cases z : p d with
    | true =>
      dsimp only
      rw [h3 z]
      dsimp only
      rw [ih, List.filter_cons_of_pos z]
      rfl
    | false =>
      dsimp only
      rw [ih, List.filter_cons_of_neg (by rw [z]; decide)]
theorem compL_m {h : D → O} {l : List D} (H : ∀ d ∈ l, ∃ ρ1, b d ρ = some ρ1 ∧ g ρ1 = .ok true ∧ f ρ1 = .ok (.tmp (h d))) : compL b g f ρ l = some (l.map h) := by
  have z := compL_mf (p := fun _ => true) (h := h) (l := l) (b := b) (g := g) (f := f) (ρ := ρ) fun d hd => by
    obtain ⟨ρ1, h1, h2, h3⟩ := H d hd
    exact ⟨ρ1, h1, h2, fun _ => h3⟩
  rw [z, List.filter_eq_self.mpr fun _ _ => rfl]
end
@[simp] theorem lcO_some (os : List O) : lcO (some os) = if os.length ≤ sizeLine then .ok (.tmp (.node .lst os)) else .bad := rfl
@[simp] theorem wipeE_nil (ρ : Env) : wipeE ρ [] = ρ := rfl
@[simp] theorem wipeE_cons (ρ : Env) (v : Nat) (vs : List Nat) : wipeE ρ (v :: vs) = (wipeE ρ vs).set v none := rfl
@[simp] theorem forL_nil (b : FG) (f : FS) (ρ : Env) : forL b f [] ρ = .ok .nx ρ := rfl
@[simp] theorem clean_int (a : Int) : clean (.int a) = true := rfl
@[simp] theorem clean_bl (a : Bool) : clean (.bl a) = true := rfl
@[simp] theorem clean_non : clean .non = true := rfl
@[simp] theorem clean_str (s : Str) : clean (.str s) = true := rfl
@[simp] theorem clean_tup (l : List D) : clean (.tup l) = cleans l := rfl
@[simp] theorem cleans_nil : cleans [] = true := rfl
@[simp] theorem cleans_cons (d : D) (l : List D) : cleans (d :: l) = (clean d && cleans l) := rfl
theorem cleans_all {α : Type} {g : α → D} : ∀ {l : List α}, (∀ x ∈ l, clean (g x) = true) → cleans (l.map g) = true
  | [], _ => rfl
  | x :: l, h => by
    rw [List.map_cons, cleans_cons, h x List.mem_cons_self, cleans_all fun y hy => h y (List.mem_cons_of_mem _ hy)]
    rfl
@[simp] theorem cleans_int (l : List Int) : cleans (l.map D.int) = true := cleans_all fun x _ => rfl
@[simp] theorem cleanO_dat (d : D) : cleanO (.dat d) = clean d := rfl
@[simp] theorem cleanO_node (t : Tag) (l : List O) : cleanO (.node t l) = cleanOs l := rfl
@[simp] theorem cleanOs_nil : cleanOs [] = true := rfl
@[simp] theorem cleanOs_cons (o : O) (l : List O) : cleanOs (o :: l) = (cleanO o && cleanOs l) := rfl
theorem cleanOs_map : ∀ l : List D, cleanOs (l.map .dat) = cleans l
  | [] => rfl
  | d :: l => by rw [List.map_cons, cleanOs_cons, cleanOs_map l]; rfl
theorem cleanOs_map2 {α : Type} (g : α → D) (l : List α) : cleanOs (l.map (O.dat ∘ g)) = cleans (l.map g) := by
  rw [← cleanOs_map, List.map_map]
end FL
namespace FL
open PySem L2
def cellAt (ns : List Int) (k : Int) : Int := ns[k.toNat]?.getD 0
noncomputable def rCell : FS := (sSeq (sIf (bE (eOp dLt (eVar 1) (eFn dLen (rCons (eVar 0) aNil)))) (sSeq (sRet [] (lft (eIx (eVar 0) (eVar 1)))) sNx) sNx) (sSeq (sRet [] (lft (eK (.int 0)))) sNx))
theorem run_cell (ns : List Int) {k : Int} (h0 : 0 ≤ k) : runF [] 2 rCell [.dat (.scr (ns.map .int)), .dat (.int k)] = .ok (.dat (.int (cellAt ns k))) [.dat (.scr (ns.map .int)), .dat (.int k)] := by
  show endF [] _ (rCell [some (.dat (.scr (ns.map .int))), some (.dat (.int k))]) = _
  obtain ⟨j, rfl⟩ : ∃ j : Nat, k = (j : Int) := ⟨k.toNat, by omega⟩
  by_cases h : j < ns.length
  · have e : atI (ns.map D.int) (j : Int) = some (.int ns[j]) := atI_ok rfl (by simp [h])
    have h2 : (j : Int) < (ns.length : Int) := by omega
    have e2 : cellAt ns (j : Int) = ns[j] := by unfold cellAt; rw [Int.toNat_natCast, List.getElem?_eq_getElem h]; rfl
    simp [rCell, h2, dIx_scr _ e, e2]
  · have h2 : ¬ (j : Int) < (ns.length : Int) := by omega
    have e2 : cellAt ns (j : Int) = 0 := by unfold cellAt; rw [Int.toNat_natCast, List.getElem?_eq_none (by omega)]; rfl
    simp [rCell, h2, e2]
theorem comp_rng {b : FG} {g : FB} {f : FE} {ρ : Env} {lo hi : Int} {h : Int → O} (H : ∀ k : Int, lo ≤ k → k < hi → ∃ ρ1, b (.int k) ρ = some ρ1 ∧ g ρ1 = .ok true ∧ f ρ1 = .ok (.tmp (h k))) : compL b g f ρ (rangeD lo hi) = some ((ilst lo hi).map h) := by
  have z := compL_m (b := b) (g := g) (f := f) (ρ := ρ) (l := rangeD lo hi) (h := fun d => match d with | .int k => h k | d => .dat d) fun d hd => by
    rw [rangeD_ilst] at hd
    obtain ⟨k, hk, rfl⟩ := List.mem_map.mp hd
    obtain ⟨h1, h2⟩ := mem_ilst.mp hk
    exact H k h1 h2
  rw [z, rangeD_ilst, List.map_map]
  rfl
theorem comp_lst {α : Type} {b : FG} {g : FB} {f : FE} {ρ : Env} {l : List α} {q : α → D} {p : α → Bool} {h : α → O} (H : ∀ x ∈ l, ∃ ρ1, b (q x) ρ = some ρ1 ∧ g ρ1 = .ok (p x) ∧ (p x = true → f ρ1 = .ok (.tmp (h x)))) : compL b g f ρ (l.map q) = some ((l.filter p).map h) := by
  induction l with
  | nil => rfl
  | cons x l ih =>
    have ih := ih fun y hy => H y (List.mem_cons_of_mem _ hy)
    obtain ⟨ρ1, h1, h2, h3⟩ := H x List.mem_cons_self
    have e : compL b g f ρ (q x :: l.map q) = (match b (q x) ρ with
      | none => none
      | some ρ1 => match g ρ1 with
        | .ok true => (match f ρ1 with
          | .ok (.tmp o) => (compL b g f ρ (l.map q)).map fun os => o :: os
          | _ => none)
        | .ok false => compL b g f ρ (l.map q)
        | _ => none) := rfl
    rw [List.map_cons, e, h1]
    dsimp only
    rw [h2]
    cases z : p x with
    | true =>
      dsimp only
      rw [h3 z]
      dsimp only
      rw [ih, List.filter_cons_of_pos z]
      rfl
    | false =>
      dsimp only
      rw [ih, List.filter_cons_of_neg (by rw [z]; decide)]
theorem dIxM2 (a b x : Int) : dIx (.lst [.int a, .int b]) (.int (x % 2)) = .ok (.dat (.int (if x % 2 = 0 then a else b))) := by
  rcases (by omega : x % 2 = 0 ∨ x % 2 = 1) with h | h <;> rw [h] <;> rfl
theorem dIxM3 (a b c x : Int) : dIx (.lst [.int a, .int b, .int c]) (.int (x % 3)) = .ok (.dat (.int (if x % 3 = 0 then a else if x % 3 = 1 then b else c))) := by
  rcases (by omega : x % 3 = 0 ∨ x % 3 = 1 ∨ x % 3 = 2) with h | h | h <;> rw [h] <;> rfl
theorem seq_step {f g : FS} {ρ ρ1 : Env} {r : RS} (h : f ρ = .ok .nx ρ1) (h2 : g ρ1 = r) : sSeq f g ρ = r := by
  rw [sSeq_ap, h]
  exact h2
theorem seq_rt {f g : FS} {ρ ρ1 : Env} {o : O} (h : f ρ = .ok (.rt o) ρ1) : sSeq f g ρ = .ok (.rt o) ρ1 := by
  rw [sSeq_ap, h]
  rfl
theorem run_rt {N : Nat} {body : FS} {d : D} {o : O} {x : Option O} {ρ : Env} (h : body (startE N [.dat d]) = .ok (.rt o) (x :: ρ)) : ∃ os, runF [] N body [.dat d] = .ok o os := by
  refine ⟨[.dat d], ?_⟩
  show endF [] _ (body (startE N [.dat d])) = _
  rw [h]
  simp
end FL
namespace FL
open PySem L2
theorem okMul_sm {a b : Int} (ha : a.natAbs < 2 ^ 5000) (hb : b.natAbs < 2 ^ 5000) : okMul a b := by
  have f : ∀ x : Nat, x < 2 ^ 5000 → x.log2 < 5000 := fun x hx => by
    by_cases z : x = 0
    · subst z; decide
    · exact (Nat.log2_lt z).mpr hx
  have h1 := f _ ha
  have h2 := f _ hb
  refine .inl ?_
  omega
theorem p200 : (10 : Nat) ^ 200 < 2 ^ 5000 := by decide +kernel
theorem okMul_pos {a b : Int} (ha0 : 0 ≤ a) (ha : a < 10 ^ 200) (hb0 : 0 ≤ b) (hb : b < 10 ^ 200) : okMul a b := by
  refine okMul_sm (Nat.lt_trans ?_ p200) (Nat.lt_trans ?_ p200)
  · have : (a.natAbs : Int) < ((10 ^ 200 : Nat) : Int) := by
      rw [Int.natAbs_of_nonneg ha0]
      exact_mod_cast ha
    exact_mod_cast this
  · have : (b.natAbs : Int) < ((10 ^ 200 : Nat) : Int) := by
      rw [Int.natAbs_of_nonneg hb0]
      exact_mod_cast hb
    exact_mod_cast this
theorem dMul_pos {a b : Int} (ha0 : 0 ≤ a) (ha : a < 10 ^ 200) (hb0 : 0 ≤ b) (hb : b < 10 ^ 200) : dMul (.int a) (.int b) = .ok (.dat (.int (a * b))) := by
  rw [dMul_int, if_pos (okMul_pos ha0 ha hb0 hb)]
noncomputable def rWhole : FS := (sSeq (sRet [] (lft (eAnd (bE (eUn (dIsT "int") (eVar 0))) (eNot (bE (eUn (dIsT "bool") (eVar 0))))))) sNx)
theorem isT_eq {n t : String} {d : D} {b : Bool} (h : tyN d = some t) (hk : kitB t n = some b) : dIsT n d = .ok (.dat (.bl b)) := by
  unfold dIsT
  rw [h, Option.bind_some, hk]
theorem isT_ii (i : Int) : dIsT "int" (.int i) = .ok (.dat (.bl true)) := isT_eq (t := "int") rfl (by decide +kernel)
theorem isT_ib (i : Int) : dIsT "bool" (.int i) = .ok (.dat (.bl false)) := isT_eq (t := "int") rfl (by decide +kernel)
theorem isT_bb (b : Bool) : dIsT "bool" (.bl b) = .ok (.dat (.bl true)) := isT_eq (t := "bool") rfl (by decide +kernel)
theorem isT_bi (b : Bool) : dIsT "int" (.bl b) = .ok (.dat (.bl true)) := isT_eq (t := "bool") rfl (by decide +kernel)
theorem isT_tt (l : List D) : dIsT "tuple" (.tup l) = .ok (.dat (.bl true)) := isT_eq (t := "tuple") rfl (by decide +kernel)
theorem isT_ll (l : List D) : dIsT "list" (.lst l) = .ok (.dat (.bl true)) := isT_eq (t := "list") rfl (by decide +kernel)
theorem run_whole (i : Int) : runF [] 1 rWhole [.dat (.int i)] = .ok (.dat (.bl true)) [.dat (.int i)] := by
  show endF [] _ (rWhole [some (.dat (.int i))]) = _
  simp [rWhole, isT_ii, isT_ib]
noncomputable def rAmount : FS := (sSeq (sSet 1 (lft (eOp dDiv (eVar 0) (eK (.int 4))))) (sSeq (sIf (bE (eOp dEq (eOp dMod (eVar 0) (eK (.int 4))) (eK (.int 0)))) (sSeq (sRet [] (lft (eOp dAdd (eK (.int 1)) (eOp dMod (eVar 1) (eOp dPow (eK (.int 10)) (eK (.int 30))))))) sNx) sNx) (sSeq (sIf (bE (eOp dEq (eOp dMod (eVar 0) (eK (.int 4))) (eK (.int 1)))) (sSeq (sRet [] (lft (eOp dSub (eOp dPow (eK (.int 10)) (eK (.int 30))) (eOp dMod (eVar 1) (eK (.int 5)))))) sNx) sNx) (sSeq (sIf (bE (eOp dEq (eOp dMod (eVar 0) (eK (.int 4))) (eK (.int 2)))) (sSeq (sRet [] (lft (eOp dAdd (eK (.int 1)) (eOp dMod (eVar 1) (eK (.int 3)))))) sNx) sNx) (sSeq (sRet [] (lft (eOp dAdd (eK (.int 1)) (eOp dMod (eVar 1) (eK (.int 1000)))))) sNx)))))
def amountOf (c : Int) : Int := if c % 4 = 0 then 1 + c / 4 % 10 ^ 30 else if c % 4 = 1 then 10 ^ 30 - c / 4 % 5 else if c % 4 = 2 then 1 + c / 4 % 3 else 1 + c / 4 % 1000
theorem run_amount (c : Int) : runF [] 2 rAmount [.dat (.int c)] = .ok (.dat (.int (amountOf c))) [.dat (.int c)] := by
  show endF [] _ (rAmount [some (.dat (.int c)), none]) = _
  unfold amountOf
  by_cases h0 : c % 4 = 0
  · simp [rAmount, h0]
  · by_cases h1 : c % 4 = 1
    · simp [rAmount, h0, h1]
    · by_cases h2 : c % 4 = 2
      · simp [rAmount, h0, h1, h2]
      · simp [rAmount, h0, h1, h2]
theorem amountOf_ok (c : Int) : 1 ≤ amountOf c ∧ amountOf c ≤ 10 ^ 30 := by
  unfold amountOf
  by_cases h0 : c % 4 = 0
  · rw [if_pos h0]; omega
  · rw [if_neg h0]
    by_cases h1 : c % 4 = 1
    · rw [if_pos h1]; omega
    · rw [if_neg h1]
      by_cases h2 : c % 4 = 2
      · rw [if_pos h2]; omega
      · rw [if_neg h2]; omega
noncomputable def rLetter : FS := (sSeq (sSet 3 (lft (eOp dMod (eOp dMul (eOp dAdd (eOp dAdd (eOp dMod (eVar 0) (eK (.int 1000000007))) (eOp dMul (eK (.int 977)) (eVar 1))) (eK (.int 1))) (eK (.int 48271))) (eK (.int 2147483647))))) (sSeq (sRet [] (lft (eOp dMod (eOp dDiv (eOp dMod (eOp dMul (eVar 3) (eVar 3)) (eK (.int 2147483647))) (eK (.int 8))) (eVar 2)))) sNx))
def nearOf (c k : Int) : Int := (c % 1000000007 + 977 * k + 1) * 48271 % 2147483647
def letterOf (c k n : Int) : Int := nearOf c k * nearOf c k % 2147483647 / 8 % n
theorem nearOf_ok (c k : Int) : 0 ≤ nearOf c k ∧ nearOf c k < 2147483647 := ⟨Int.emod_nonneg _ (by decide), Int.emod_lt_of_pos _ (by decide)⟩
theorem big_lit {a : Int} (h : a < 10 ^ 30) : a < 10 ^ 200 := Int.lt_trans h (by decide +kernel)
theorem run_letter (c : Int) {k n : Int} (hk : 0 ≤ k) (hk2 : k < 1000000) (hn : 0 < n) : runF [] 4 rLetter [.dat (.int c), .dat (.int k), .dat (.int n)] = .ok (.dat (.int (letterOf c k n))) [.dat (.int c), .dat (.int k), .dat (.int n)] := by
  show endF [] _ (rLetter [some (.dat (.int c)), some (.dat (.int k)), some (.dat (.int n)), none]) = _
  have m1 := dMul_pos (a := 977) (b := k) (by omega) (big_lit (by omega)) hk (big_lit (by omega))
  have m2 := dMul_pos (a := c % 1000000007 + 977 * k + 1) (b := 48271) (by omega) (big_lit (by omega)) (by omega) (big_lit (by omega))
  obtain ⟨n1, n2⟩ := nearOf_ok c k
  have m3 := dMul_pos (a := nearOf c k) (b := nearOf c k) n1 (big_lit (by omega)) n1 (big_lit (by omega))
  have m4 := dMod_pos (nearOf c k * nearOf c k % 2147483647 / 8) hn
  have e1 : (c % 1000000007 + 977 * k + 1) * 48271 % 2147483647 = nearOf c k := rfl
  simp [rLetter, -dMul_int, m1, m2, m3, m4, e1, letterOf]
end FL
namespace FL
open PySem L2
theorem nx_step {f g : FS} {ρ ρ1 : Env} {P : RS → Prop} (h : f ρ = .ok .nx ρ1) (h2 : P (g ρ1)) : P (sSeq f g ρ) := by
  rw [sSeq_ap, h]; exact h2
theorem rt_step {f g : FS} {ρ ρ1 : Env} {o : O} {P : RS → Prop} (h : f ρ = .ok (.rt o) ρ1) (h2 : P (.ok (.rt o) ρ1)) : P (sSeq f g ρ) := by
  rw [sSeq_ap, h]; exact h2
theorem nx_ex {f g : FS} {ρ : Env} {S : Env → Prop} {P : RS → Prop} (h : ∃ ρ1, f ρ = .ok .nx ρ1 ∧ S ρ1) (h2 : ∀ ρ1, S ρ1 → P (g ρ1)) : P (sSeq f g ρ) := by
  obtain ⟨ρ1, e, s⟩ := h
  rw [sSeq_ap, e]; exact h2 ρ1 s
theorem thn_ex {r : RS} {k : FS} {S : Env → Prop} {P : RS → Prop} (h : ∃ ρ1, r = .ok .nx ρ1 ∧ S ρ1) (h2 : ∀ ρ1, S ρ1 → P (k ρ1)) : P (r.thn k) := by
  obtain ⟨ρ1, e, s⟩ := h
  rw [e]; exact h2 ρ1 s
def Goes (r : RS) (S : Env → Prop) : Prop := ∃ ρ, (r = .ok .nx ρ ∨ r = .ok .ct ρ) ∧ S ρ
theorem Goes.nx {ρ : Env} {S : Env → Prop} (h : S ρ) : Goes (.ok .nx ρ) S := ⟨ρ, .inl rfl, h⟩
theorem Goes.ct {ρ : Env} {S : Env → Prop} (h : S ρ) : Goes (.ok .ct ρ) S := ⟨ρ, .inr rfl, h⟩
theorem for_inv {α : Type} {q : α → D} {b : FG} {f : FS} (P : List α → Env → Prop) : ∀ (l done : List α) (ρ : Env), P done ρ →
    (∀ d x, (∃ r, done ++ l = d ++ x :: r) → ∀ ρ, P d ρ → ∃ ρ1, b (q x) ρ = some ρ1 ∧ Goes (f ρ1) (P (d ++ [x]))) →
    ∃ ρ', forL b f (l.map q) ρ = .ok .nx ρ' ∧ P (done ++ l) ρ'
  | [], done, ρ, h, _ => ⟨ρ, rfl, by rw [List.append_nil]; exact h⟩
  | x :: l, done, ρ, h, H => by
    obtain ⟨ρ1, e1, ρ2, e2, h2⟩ := H done x ⟨l, rfl⟩ ρ h
    have ih := for_inv P l (done ++ [x]) ρ2 h2 fun d y hd => H d y (by rw [List.append_assoc] at hd; exact hd)
    obtain ⟨ρ', e3, h3⟩ := ih
    refine ⟨ρ', ?_, by rw [List.append_assoc] at h3; exact h3⟩
    rw [List.map_cons, forL_cons, e1]
    dsimp only
    rcases e2 with e2 | e2 <;> rw [e2] <;> exact e3
theorem for_all {α : Type} {q : α → D} {b : FG} {f : FS} {P : Env → Prop} {l : List α} {ρ : Env} (h : P ρ) (H : ∀ x ∈ l, ∀ ρ, P ρ → ∃ ρ1, b (q x) ρ = some ρ1 ∧ Goes (f ρ1) P) : ∃ ρ', forL b f (l.map q) ρ = .ok .nx ρ' ∧ P ρ' := by
  obtain ⟨ρ', e, h2⟩ := for_inv (q := q) (b := b) (f := f) (fun _ => P) l [] ρ h fun d x ⟨r, hd⟩ ρ hp => H x (by rw [List.nil_append] at hd; rw [hd]; simp) ρ hp
  exact ⟨ρ', e, h2⟩
def Stops (r : RS) : Prop := (∃ o ρ, r = .ok (.rt o) ρ) ∨ ∃ c fs ρ, r = .exc c fs ρ
theorem Stops.turn {r : RS} (h : Stops r) (k : FS) : r.turn k = r := by
  rcases h with ⟨o, ρ, rfl⟩ | ⟨c, fs, ρ, rfl⟩ <;> rfl
theorem Stops.rt {o : O} {ρ : Env} : Stops (.ok (.rt o) ρ) := .inl ⟨o, ρ, rfl⟩
theorem Stops.exc {c : Str} {fs : List (Str × D)} {ρ : Env} : Stops (.exc c fs ρ) := .inr ⟨c, fs, ρ, rfl⟩
theorem for_cases {α : Type} {q : α → D} {b : FG} {f : FS} (P : List α → Env → Prop) (E : List α → α → RS → Prop) : ∀ (l done : List α) (ρ : Env), P done ρ →
    (∀ d x, (∃ r, done ++ l = d ++ x :: r) → ∀ ρ, P d ρ → ∃ ρ1, b (q x) ρ = some ρ1 ∧ (Goes (f ρ1) (P (d ++ [x])) ∨ (Stops (f ρ1) ∧ E d x (f ρ1)))) →
    (∃ ρ', forL b f (l.map q) ρ = .ok .nx ρ' ∧ P (done ++ l) ρ') ∨ ∃ d x r, done ++ l = d ++ x :: r ∧ E d x (forL b f (l.map q) ρ)
  | [], done, ρ, h, _ => .inl ⟨ρ, rfl, by rw [List.append_nil]; exact h⟩
  | x :: l, done, ρ, h, H => by
    obtain ⟨ρ1, e1, z⟩ := H done x ⟨l, rfl⟩ ρ h
    rcases z with ⟨ρ2, e2, h2⟩ | ⟨st, e2⟩
    · have ih := for_cases P E l (done ++ [x]) ρ2 h2 fun d y hd => H d y (by rw [List.append_assoc] at hd; exact hd)
      have e4 : forL b f ((x :: l).map q) ρ = forL b f (l.map q) ρ2 := by
        rw [List.map_cons, forL_cons, e1]
        dsimp only
        rcases e2 with e2 | e2 <;> rw [e2] <;> rfl
      rw [e4]
      rw [List.append_assoc] at ih
      exact ih
    · refine .inr ⟨done, x, l, rfl, ?_⟩
      rw [List.map_cons, forL_cons, e1]
      dsimp only
      rw [st.turn]
      exact e2
theorem while_inv {g : FB} {f : FS} {P : Nat → Env → Prop} {S : Env → Prop} (H : ∀ n ρ, P n ρ → (g ρ = .ok false ∧ S ρ) ∨ (g ρ = .ok true ∧ Goes (f ρ) fun ρ2 => ∃ m, m < n ∧ P m ρ2)) : ∀ (n : Nat) (ρ : Env), P n ρ → ∃ ρ', sWhile g f ρ = .ok .nx ρ' ∧ S ρ' := by
  have key : ∀ (n : Nat) (ρ : Env), P n ρ → ∃ k ρ', whileN k g f ρ = .ok .nx ρ' ∧ S ρ' := by
    intro n
    induction n using Nat.strongRecOn with
    | _ n ih =>
      intro ρ h
      rcases H n ρ h with ⟨e, s⟩ | ⟨e, ρ2, e2, m, hm, h2⟩
      · exact ⟨1, ρ, by unfold whileN; rw [e]; rfl, s⟩
      · obtain ⟨k, ρ', e3, s⟩ := ih m hm ρ2 h2
        refine ⟨k + 1, ρ', ?_, s⟩
        unfold whileN
        rw [e]
        simp only [Rs.thn_ok, if_true]
        rcases e2 with e2 | e2 <;> rw [e2] <;> exact e3
  intro n ρ h
  obtain ⟨k, ρ', e, s⟩ := key n ρ h
  exact ⟨ρ', sWhile_eq e (by intro z; cases z), s⟩
def Tells (kp : List Nat) (os : List O) (o : O) (os' : List O) (r : RS) : Prop := ∃ ρ, r = .ok (.rt o) ρ ∧ outs kp 0 os ρ = some os'
theorem Tells.mk {kp : List Nat} {os os' : List O} {o : O} {ρ : Env} (h : outs kp 0 os ρ = some os') : Tells kp os o os' (.ok (.rt o) ρ) := ⟨ρ, rfl, h⟩
theorem Tells.of {kp : List Nat} {os os' : List O} {o : O} {r : RS} {ρ : Env} (e : r = .ok (.rt o) ρ) (h : outs kp 0 os ρ = some os') : Tells kp os o os' r := ⟨ρ, e, h⟩
theorem Tells.thn {kp : List Nat} {os os' : List O} {o : O} {r : RS} (h : Tells kp os o os' r) (k : FS) : Tells kp os o os' (r.thn k) := by
  obtain ⟨ρ, rfl, e⟩ := h
  exact ⟨ρ, rfl, e⟩
theorem Tells.seq {kp : List Nat} {os os' : List O} {o : O} {f g : FS} {ρ : Env} (h : Tells kp os o os' (f ρ)) : Tells kp os o os' (sSeq f g ρ) := h.thn g
theorem run_ok {kp : List Nat} {N : Nat} {body : FS} {os os' : List O} {o : O} (h : Tells kp os o os' (body (startE N os))) : runF kp N body os = .ok o os' := by
  obtain ⟨ρ, e, e2⟩ := h
  show endF kp os (body (startE N os)) = _
  rw [e, endF_rt, e2]
theorem ite_iff {α : Type} {p q : Prop} [Decidable p] [Decidable q] (h : p ↔ q) {x y : α} : (if p then x else y) = if q then x else y := by
  by_cases z : p
  · rw [if_pos z, if_pos (h.mp z)]
  · rw [if_neg z, if_neg fun k => z (h.mpr k)]
theorem x_append {ρ : Env} {i : Nat} {l : List O} {o : O} {fos : FOs} (h : ρ[i]? = some (some (.node .lst l))) (hf : fos ρ = .ok [.tmp o]) (hl : l.length < 16777216) : xMut "list" muApp (eVar i) fos ρ = .ok (.tmp (.dat .non)) (ρ.set i (some (.node .lst (l ++ [o])))) := by
  have hl2 : l.length < sizeLine := szl_lt hl
  simp only [xMut_ap, eVar_ap, h, hf, getP_nil, Option.join_some, isT, tmps, muRes, muApp, putP_nil, if_true, if_pos hl2]
  rfl
theorem s_append {ρ : Env} {i : Nat} {l : List O} {o : O} {fos : FOs} (h : ρ[i]? = some (some (.node .lst l))) (hf : fos ρ = .ok [.tmp o]) (hl : l.length < 16777216) : sDrop (xMut "list" muApp (eVar i) fos) ρ = .ok .nx (ρ.set i (some (.node .lst (l ++ [o])))) := by
  rw [sDrop_ap, x_append h hf hl]
  rfl
abbrev vI (i : Int) : Option O := some (.dat (.int i))
abbrev vB (b : Bool) : Option O := some (.dat (.bl b))
abbrev vT (l : List Int) : Option O := some (.dat (.tup (l.map .int)))
abbrev vD (d : D) : Option O := some (.dat d)
abbrev wT (l : List Int) : D := .tup (l.map .int)
@[simp] theorem eqD_nn : eqD .non .non = true := rfl
@[simp] theorem eqDs_wT (a b : List (List Int)) : eqDs (a.map fun w => D.tup (w.map .int)) (b.map fun w => D.tup (w.map .int)) = decide (a = b) := eqDs_map (fun x y => by rw [eqD_tup, eqDs_int]) a b
@[simp] theorem okEs_wT (n : Nat) (l : List (List Int)) : okEs (n + 1) (l.map fun w => D.tup (w.map .int)) = true := okEs_all fun x _ => by rw [okE_tup]; exact okEs_int n x
@[simp] theorem cleans_wT (l : List (List Int)) : cleans (l.map fun w => D.tup (w.map .int)) = true := cleans_all fun x _ => by rw [clean_tup]; exact cleans_int x
theorem at_nat {l : List Int} {i : Nat} (h : i < l.length) : atI (l.map D.int) (i : Int) = some (.int l[i]) := atI_ok rfl (by simp [h])
theorem dIx_tn {l : List Int} {i : Nat} (h : i < l.length) : dIx (.tup (l.map D.int)) (.int (i : Int)) = .ok (.dat (.int l[i])) := dIx_tup _ (at_nat h)
theorem ilst_nat (n : Nat) : ilst 0 (n : Int) = (List.range n).map fun (i : Nat) => (i : Int) := by
  unfold ilst
  rw [Int.sub_zero, Int.toNat_natCast]
  exact List.map_congr_left fun i _ => by omega
theorem rng_nat {n : Nat} (h : n < 2 ^ 62) : rngD [.int (n : Int)] = some ((List.range n).map fun (i : Nat) => D.int (i : Int)) := by
  rw [rng_one (by omega) (by omega), rangeD_ilst, ilst_nat, List.map_map]
  rfl
end FL
namespace FL
open PySem L2
@[simp] theorem isT_lst {T : String} {l : List O} : isT T (some (.node .lst l)) = (T == "list") := rfl
@[simp] theorem isT_dct {T : String} {ks : List Key} {l : List O} : isT T (some (.node (.dct ks) l)) = (T == "dict") := rfl
@[simp] theorem isT_dat {T : String} {d : D} : isT T (some (.dat d)) = false := rfl
@[simp] theorem tmps_nil : tmps [] = some [] := rfl
@[simp] theorem tmps_cons {o : O} {os : List Opd} : tmps (.tmp o :: os) = (tmps os).map (o :: ·) := rfl
@[simp] theorem muRes_nil {M : Mu} {i : Nat} {args : List O} {ρ : Env} : muRes M i [] args ρ = match ρ[i]? with
    | some (some (.node t l)) => (match M t l args with
      | some (t', l', res) => .ok (.tmp res) (ρ.set i (some (.node t' l')))
      | none => .bad)
    | _ => .bad := by
  unfold muRes
  rw [getP_nil]
  cases z : ρ[i]? with
  | none => rfl
  | some x =>
    cases x with
    | none => rfl
    | some o =>
      cases o with
      | dat d => rfl
      | pck l => rfl
      | node t l =>
        simp only [Option.join_some]
        cases M t l args with
        | none => rfl
        | some p => obtain ⟨t', l', res⟩ := p; simp only [putP_nil, z]
@[simp] theorem muApp_ok {l : List O} {o : O} (h : l.length < 16777216) : muApp .lst l [o] = some (.lst, l ++ [o], .dat .non) := by
  show (if l.length < sizeLine then _ else _) = _
  rw [if_pos (szl_lt h)]
@[simp] theorem muExt_own {l l2 : List O} (h : l.length + l2.length < 16777216) : muExt .lst l [.node .lst l2] = some (.lst, l ++ l2, .dat .non) := by
  show (if l.length + l2.length ≤ sizeLine then _ else _) = _
  rw [if_pos (Nat.le_of_lt (szl_lt h))]
@[simp] theorem muExt_dat {l : List O} {l2 : List D} (h : l.length + l2.length < 16777216) : muExt .lst l [.dat (.lst l2)] = some (.lst, l ++ l2.map .dat, .dat .non) := by
  show (if l.length + l2.length ≤ sizeLine then _ else _) = _
  rw [if_pos (Nat.le_of_lt (szl_lt h))]
@[simp] theorem muRev_ap {l : List O} : muRev .lst l [] = some (.lst, l.reverse, .dat .non) := rfl
@[simp] theorem muClr_ap {l : List O} : muClr .lst l [] = some (.lst, [], .dat .non) := rfl
@[simp] theorem muPop0_ap {l : List O} : muPop0 .lst l [] = (match l[l.length - 1]? with
    | some o => some (.lst, l.dropLast, o)
    | none => none) := rfl
theorem muPop1_ok {l : List O} {k : Nat} (h : k < l.length) (h2 : l.length < 16777216) : muPop1 .lst l [.dat (.int (k : Int))] = some (.lst, l.eraseIdx k, l[k]) := by
  have hs : (l.length : Int) < 2 ^ 63 := by omega
  show (match (if okI (k : Int) then seqIndex? (k : Int) l.length else none) with
    | some k => (match l[k]? with
      | some o => some (Tag.lst, l.eraseIdx k, o)
      | none => none)
    | none => none) = _
  have hk : okI (k : Int) := ⟨by omega, by omega⟩
  rw [if_pos hk]
  have e : seqIndex? (k : Int) l.length = some k := by
    unfold seqIndex?
    have h0 : ¬ (k : Int) < 0 := by omega
    simp only [h0, if_false]
    simp [h]
  rw [e]
  simp [h]
theorem okRep_ok {n : Nat} {k : Int} (h : n * k.toNat < 16777216) (h2 : k < 1000000000) (h3 : -1000000000 < k) : okRep n k := ⟨by omega, by omega, Nat.le_of_lt (szl_lt h)⟩
theorem dMul_rep {d : D} {k : Nat} (h : k < 16777216) : dMul (.lst [d]) (.int (k : Int)) = .ok (.node .lst ((List.replicate k d).map .dat)) := by
  have ok : okRep [d].length (k : Int) := okRep_ok (by simp; omega) (by omega) (by omega)
  rw [dMul_lst, if_pos ok, Int.toNat_natCast]
  congr 3
  clear ok h
  induction k with
  | zero => rfl
  | succ n ih => simp [List.replicate_succ]
@[simp] theorem bTup_tup {n : Nat} {bs : List D → Env → Option Env} {ds : List D} {ρ : Env} : bTup n bs (.tup ds) ρ = if ds.length = n then bs ds ρ else none := rfl
@[simp] theorem muSet2_lst {l : List O} {k : Nat} {o : O} (h : k < l.length) (h2 : l.length < 16777216) : muSet2 .lst l [.dat (.int (k : Int)), o] = some (.lst, l.set k o, .dat .non) := by
  have e : ixN l.length (k : Int) = some k := by
    unfold ixN
    simp [h]
  show (match ixN l.length (k : Int) with
    | some j => if j < l.length then some (Tag.lst, l.set j o, O.dat .non) else none
    | none => none) = _
  rw [e]
  exact if_pos h
@[simp] theorem okE_str (n : Nat) (s : Str) : okE (n + 1) (.str s) = PyData.strOk s := rfl
@[simp] theorem eqD_str (a b : Str) : eqD (.str a) (.str b) = (a == b) := rfl
@[simp] theorem isT_iiS (i : Int) : dIsT "int" (.int i) = .ok (.dat (.bl true)) := isT_ii i
@[simp] theorem isT_ibS (i : Int) : dIsT "bool" (.int i) = .ok (.dat (.bl false)) := isT_ib i
@[simp] theorem isT_bbS (b : Bool) : dIsT "bool" (.bl b) = .ok (.dat (.bl true)) := isT_bb b
@[simp] theorem isT_biS (b : Bool) : dIsT "int" (.bl b) = .ok (.dat (.bl true)) := isT_bi b
@[simp] theorem isT_ttS (l : List D) : dIsT "tuple" (.tup l) = .ok (.dat (.bl true)) := isT_tt l
@[simp] theorem isT_llS (l : List D) : dIsT "list" (.lst l) = .ok (.dat (.bl true)) := isT_ll l
@[simp] theorem isT_tn : dIsT "tuple" .non = .ok (.dat (.bl false)) := isT_eq (t := "NoneType") rfl (by decide +kernel)
@[simp] theorem isT_tl (l : List D) : dIsT "tuple" (.lst l) = .ok (.dat (.bl false)) := isT_eq (t := "list") rfl (by decide +kernel)
@[simp] theorem isT_ti (i : Int) : dIsT "tuple" (.int i) = .ok (.dat (.bl false)) := isT_eq (t := "int") rfl (by decide +kernel)
@[simp] theorem isT_lt (l : List D) : dIsT "list" (.tup l) = .ok (.dat (.bl false)) := isT_eq (t := "tuple") rfl (by decide +kernel)
@[simp] theorem isT_it (l : List D) : dIsT "int" (.tup l) = .ok (.dat (.bl false)) := isT_eq (t := "tuple") rfl (by decide +kernel)
@[simp] theorem isT_in : dIsT "int" .non = .ok (.dat (.bl false)) := isT_eq (t := "NoneType") rfl (by decide +kernel)
end FL
namespace FL
open PySem L2
def wd (w : List Int) : D := .tup (w.map .int)
theorem wd_eq (w : List Int) : wd w = .tup (w.map .int) := rfl
abbrev vW (w : List Int) : Option O := some (.dat (wd w))
@[simp] theorem wd_len {w : List Int} : dLen [wd w] = .ok (.dat (.int w.length)) := by rw [wd_eq]; simp
@[simp] theorem wd_seq {w : List Int} : seqD (wd w) = some (w.map .int) := rfl
@[simp] theorem wd_to {w : List Int} {n : Int} (h : 0 ≤ n) : dSl (wd w) none (some n) = .ok (.dat (wd (w.take n.toNat))) := by
  rw [wd_eq, dSl_tup, cut_to _ h, ← List.map_take]; rfl
@[simp] theorem wd_from {w : List Int} {n : Int} (h : 0 ≤ n) : dSl (wd w) (some n) none = .ok (.dat (wd (w.drop n.toNat))) := by
  rw [wd_eq, dSl_tup, cut_from _ h, ← List.map_drop]; rfl
@[simp] theorem wd_add {a b : List Int} (h : a.length + b.length < 16777216) : dAdd (wd a) (wd b) = .ok (.dat (wd (a ++ b))) := by
  rw [wd_eq, wd_eq, dAdd_tup, if_pos (Nat.le_of_lt (szl_lt (by simpa using h))), ← List.map_append]; rfl
@[simp] theorem wd_add1 {a : List Int} {x : Int} (h : a.length < 16777215) : dAdd (wd a) (.tup [.int x]) = .ok (.dat (wd (a ++ [x]))) := wd_add (b := [x]) (by simp; omega)
@[simp] theorem wd_add2 {a : List Int} {x y : Int} (h : a.length < 16777214) : dAdd (wd a) (.tup [.int x, .int y]) = .ok (.dat (wd (a ++ [x, y]))) := wd_add (b := [x, y]) (by simp; omega)
@[simp] theorem wd_1add {a : List Int} {x : Int} (h : a.length < 16777215) : dAdd (.tup [.int x]) (wd a) = .ok (.dat (wd (x :: a))) := wd_add (a := [x]) (by simp; omega)
@[simp] theorem wd_ix2 {w : List Int} {i : Nat} (h : i < w.length) : dIx2 (wd w) (.int (i : Int)) = .ok (.dat (.int w[i])) := by
  rw [wd_eq, dIx2_tup]; exact dIx_tn h
@[simp] theorem wd_ix {w : List Int} {i : Nat} (h : i < w.length) : dIx (wd w) (.int (i : Int)) = .ok (.dat (.int w[i])) := dIx_tn h
@[simp] theorem wd_eqD {a b : List Int} : eqD (wd a) (wd b) = decide (a = b) := by
  rw [wd_eq, wd_eq, eqD_tup, eqDs_int]
@[simp] theorem wd_eqn {a : List Int} : eqD (wd a) .non = false := rfl
@[simp] theorem wd_neq {a : List Int} : eqD .non (wd a) = false := rfl
@[simp] theorem wd_eqi {a : List Int} {i : Int} : eqD (wd a) (.int i) = false := rfl
@[simp] theorem wd_ieq {a : List Int} {i : Int} : eqD (.int i) (wd a) = false := rfl
@[simp] theorem wd_okE {n : Nat} {a : List Int} : okE (n + 1) (wd a) = true := by rw [wd_eq, okE_tup]; exact okEs_int n a
@[simp] theorem wd_clean {a : List Int} : clean (wd a) = true := by rw [wd_eq, clean_tup]; exact cleans_int a
@[simp] theorem wd_isT {a : List Int} : dIsT "tuple" (wd a) = .ok (.dat (.bl true)) := isT_tt _
@[simp] theorem wd_isTl {a : List Int} : dIsT "list" (wd a) = .ok (.dat (.bl false)) := isT_lt _
@[simp] theorem wd_isTi {a : List Int} : dIsT "int" (wd a) = .ok (.dat (.bl false)) := isT_it _
@[simp] theorem wd_is {a : List Int} : dIs (wd a) .non = .ok (.dat (.bl false)) := rfl
@[simp] theorem wd_isN {a : List Int} : dIsN (wd a) .non = .ok (.dat (.bl true)) := rfl
@[simp] theorem wd_tuple {a : List Int} : dTuple [wd a] = .ok (.dat (wd a)) := rfl
@[simp] theorem wd_list {a : List Int} : dList [wd a] = .ok (.node .lst (a.map fun x => .dat (.int x))) := by rw [wd_eq, dList_tup, List.map_map]; rfl
@[simp] theorem wds_eqD {a b : List (List Int)} : eqDs (a.map wd) (b.map wd) = decide (a = b) := eqDs_map (fun _ _ => wd_eqD) a b
@[simp] theorem wds_okE {n : Nat} {l : List (List Int)} : okEs (n + 1) (l.map wd) = true := okEs_all fun x _ => wd_okE
@[simp] theorem wds_clean {l : List (List Int)} : cleans (l.map wd) = true := cleans_all fun x _ => wd_clean
@[simp] theorem wds_ixl {l : List (List Int)} {i : Nat} (h : i < l.length) : dIx (.lst (l.map wd)) (.int (i : Int)) = .ok (.dat (wd l[i])) := dIx_lst _ (atI_ok rfl (by simp [h]))
@[simp] theorem wds_ixt {l : List (List Int)} {i : Nat} (h : i < l.length) : dIx (.tup (l.map wd)) (.int (i : Int)) = .ok (.dat (wd l[i])) := dIx_tup _ (atI_ok rfl (by simp [h]))
@[simp] theorem ints_ixl {l : List Int} {i : Nat} (h : i < l.length) : dIx (.lst (l.map .int)) (.int (i : Int)) = .ok (.dat (.int l[i])) := dIx_lst _ (atI_ok rfl (by simp [h]))
theorem wds_to (l : List (List Int)) {n : Int} (h : 0 ≤ n) : cutD (l.map wd) none (some n) = (l.take n.toNat).map wd := by rw [cut_to _ h, ← List.map_take]
theorem wds_from (l : List (List Int)) {n : Int} (h : 0 ≤ n) : cutD (l.map wd) (some n) none = (l.drop n.toNat).map wd := by rw [cut_from _ h, ← List.map_drop]
theorem wd_lt {a b : List Int} : dLt (wd a) (wd b) = .ok (.dat (.bl (HT.lexLt a b))) := by
  show dLt (.tup (a.map D.int)) (.tup (b.map D.int)) = _
  simp only [dLt, intsOf_map]
theorem comp_m1 {α : Type} {b : FG} {g : FB} {f : FE} {ρ : Env} {l : List α} {q : α → D} {h : α → O} (H : ∀ x ∈ l, ∃ ρ1, b (q x) ρ = some ρ1 ∧ g ρ1 = .ok true ∧ f ρ1 = .ok (.tmp (h x))) : compL b g f ρ (l.map q) = some (l.map h) := by
  have z := comp_lst (b := b) (g := g) (f := f) (ρ := ρ) (q := q) (l := l) (p := fun _ => true) (h := h) fun x hx => by
    obtain ⟨ρ1, h1, h2, h3⟩ := H x hx
    exact ⟨ρ1, h1, h2, fun _ => h3⟩
  rw [z, List.filter_eq_self.mpr fun _ _ => rfl]
@[simp] theorem dInt_bl (b : Bool) : dInt [.bl b] = .ok (.dat (.int (if b = true then 1 else 0))) := by cases b <;> rfl
@[simp] theorem dInt_int (i : Int) : dInt [.int i] = .ok (.dat (.int i)) := rfl
@[simp] theorem xMut1_ap {T : String} {M : Mu} {fo : FE} {fx : FX} {ρ : Env} : xMut1 T M fo fx ρ = match fo ρ with
  | .ok (.plc i []) => if isT T (getP ρ i []) = true then (match fx ρ with
    | .ok o ρ' => (match toOwn ρ' o with
      | some (o2, ρ2) => muRes M i [] [o2] ρ2
      | none => .bad)
    | .exc c fs ρ' => .exc c fs ρ'
    | .bad => .bad) else .bad
  | .exc c fs => .exc c fs ρ
  | _ => .bad := rfl
theorem map_erase {α β : Type} (f : α → β) : ∀ (l : List α) (j : Nat), (l.map f).eraseIdx j = (l.eraseIdx j).map f
  | [], _ => rfl
  | _ :: _, 0 => rfl
  | x :: l, j + 1 => by simp [map_erase f l j]
end FL
namespace FL
open PySem L2
def Ends (S S2 : Env → Prop) : Option O → RS → Prop
  | none, r => Goes r S
  | some o, r => ∃ ρ, r = .ok (.rt o) ρ ∧ S2 ρ
def EndsF (S S2 : Env → Prop) : Option O → RS → Prop
  | none, r => ∃ ρ, r = .ok .nx ρ ∧ S ρ
  | some o, r => ∃ ρ, r = .ok (.rt o) ρ ∧ S2 ρ
theorem some_loop {α : Type} {q : α → D} {b : FG} {f : FS} {tt : α → Option O} {S S2 : Env → Prop} : ∀ (l : List α), (∀ x ∈ l, ∀ ρ, S ρ → ∃ ρ1, b (q x) ρ = some ρ1 ∧ Ends S S2 (tt x) (f ρ1)) → ∀ ρ, S ρ → EndsF S S2 (l.findSome? tt) (forL b f (l.map q) ρ)
  | [], _, ρ, h => ⟨ρ, rfl, h⟩
  | x :: l, H, ρ, h => by
    obtain ⟨ρ1, e1, h1⟩ := H x List.mem_cons_self ρ h
    rw [List.map_cons, forL_cons, e1]
    dsimp only
    cases z : tt x with
    | none =>
      rw [z] at h1
      obtain ⟨ρ2, e2, h2⟩ := h1
      have ih := some_loop l (fun y hy => H y (List.mem_cons_of_mem _ hy)) ρ2 h2
      rw [List.findSome?_cons, z]
      rcases e2 with e2 | e2 <;> rw [e2] <;> exact ih
    | some o =>
      rw [z] at h1
      obtain ⟨ρ2, e2, h2⟩ := h1
      rw [List.findSome?_cons, z, e2]
      exact ⟨ρ2, rfl, h2⟩
theorem EndsF.seq {S S2 : Env → Prop} {x : Option O} {f g : FS} {ρ : Env} {P : RS → Prop} (h : EndsF S S2 x (f ρ)) (h1 : x = none → ∀ ρ, S ρ → P (g ρ)) (h2 : ∀ o, x = some o → ∀ ρ, S2 ρ → P (.ok (.rt o) ρ)) : P (sSeq f g ρ) := by
  rw [sSeq_ap]
  cases x with
  | none => obtain ⟨ρ1, e, s⟩ := h; rw [e]; exact h1 rfl ρ1 s
  | some o => obtain ⟨ρ1, e, s⟩ := h; rw [e]; exact h2 o rfl ρ1 s
theorem rng_nat2 {a b : Nat} (h : b < 2 ^ 62) (h2 : a < 2 ^ 62) : rngD [.int (a : Int), .int (b : Int)] = some ((List.range (b - a)).map fun (k : Nat) => D.int ((a + k : Nat) : Int)) := by
  have e := rng_two (i := (a : Int)) (j := (b : Int)) (by omega) (by omega) (by omega) (by omega)
  rw [e, rangeD_ilst]
  unfold ilst
  rw [List.map_map]
  have : ((b : Int) - (a : Int)).toNat = b - a := by omega
  rw [this]
  congr 1
end FL
namespace FL
open PySem L2 PySem.W
open PyProof.Rows (itemOrd listOrd)
abbrev PW := Int × List Int
def pr (x : PW) : D := .tup [.int x.1, wd x.2]
theorem pr_eq (x : PW) : pr x = .tup [.int x.1, wd x.2] := rfl
theorem pr_mk (p : Int) (w : List Int) : D.tup [.int p, wd w] = pr (p, w) := rfl
@[simp] theorem pr_bTup {bs : List D → Env → Option Env} {x : PW} {ρ : Env} : bTup 2 bs (pr x) ρ = bs [.int x.1, wd x.2] ρ := rfl
@[simp] theorem pr_ix0 {x : PW} : dIx2 (pr x) (.int 0) = .ok (.dat (.int x.1)) := rfl
@[simp] theorem pr_ix1 {x : PW} : dIx2 (pr x) (.int 1) = .ok (.dat (wd x.2)) := rfl
@[simp] theorem pr_len {x : PW} : dLen [pr x] = .ok (.dat (.int 2)) := rfl
@[simp] theorem pr_eqD {x y : PW} : eqD (pr x) (pr y) = decide (x = y) := by
  show (decide (x.1 = y.1) && (eqD (wd x.2) (wd y.2) && true)) = _
  rw [wd_eqD, Bool.and_true, ← Bool.decide_and]
  exact decide_eq_decide.mpr ⟨fun h => Prod.ext h.1 h.2, fun h => by rw [h]; exact ⟨rfl, rfl⟩⟩
@[simp] theorem pr_okE {n : Nat} {x : PW} : okE (n + 2) (pr x) = true := by
  show (true && (okE (n + 1) (wd x.2) && true)) = true
  rw [wd_okE]; rfl
@[simp] theorem pr_clean {x : PW} : clean (pr x) = true := by
  show (true && (clean (wd x.2) && true)) = true
  rw [wd_clean]; rfl
@[simp] theorem prs_eqD {a b : List PW} : eqDs (a.map pr) (b.map pr) = decide (a = b) := eqDs_map (fun _ _ => pr_eqD) a b
@[simp] theorem prs_okE {n : Nat} {l : List PW} : okEs (n + 2) (l.map pr) = true := okEs_all fun x _ => pr_okE
@[simp] theorem prs_clean {l : List PW} : cleans (l.map pr) = true := cleans_all fun x _ => pr_clean
@[simp] theorem pr_isT {x : PW} : dIsT "tuple" (pr x) = .ok (.dat (.bl true)) := isT_tt _
@[simp] theorem prs_ixl {l : List PW} {i : Nat} (h : i < l.length) : dIx (.lst (l.map pr)) (.int (i : Int)) = .ok (.dat (pr l[i])) := dIx_lst _ (atI_ok rfl (by simp [h]))
theorem prs_to (l : List PW) {n : Int} (h : 0 ≤ n) : cutD (l.map pr) none (some n) = (l.take n.toNat).map pr := by rw [cut_to _ h, ← List.map_take]
theorem prs_from (l : List PW) {n : Int} (h : 0 ≤ n) : cutD (l.map pr) (some n) none = (l.drop n.toNat).map pr := by rw [cut_from _ h, ← List.map_drop]
def ltW (a b : List Int) : Bool := HT.lexLt a b
def ltP (x y : PW) : Bool := decide (x.1 < y.1) || (decide (x.1 = y.1) && ltW x.2 y.2)
theorem blt_int (a b : Int) : itemOrd.blt (.inl a) (.inl b) = decide (a < b) := rfl
theorem lex_cons (x y : Int ⊕ List Nat) (r t : List (Int ⊕ List Nat)) : PyProof.Rows.lexLt itemOrd (x :: r) (y :: t) = (itemOrd.blt x y || (!itemOrd.blt y x && PyProof.Rows.lexLt itemOrd r t)) := rfl
theorem lex_words (s : List (Int ⊕ List Nat)) : ∀ (a b : List Int), PyProof.Rows.lexLt itemOrd (keyToksAll (a.map PyData.int) ++ s) (keyToksAll (b.map PyData.int) ++ s) = HT.lexLt a b
  | [], [] => (listOrd itemOrd).irrefl _
  | [], _ :: _ => rfl
  | _ :: _, [] => rfl
  | x :: a, y :: b => by
    show PyProof.Rows.lexLt itemOrd (.inl 1 :: .inl x :: (keyToksAll (a.map PyData.int) ++ s)) (.inl 1 :: .inl y :: (keyToksAll (b.map PyData.int) ++ s)) = _
    rw [lex_cons, lex_cons, lex_words s a b, blt_int, blt_int, blt_int, HT.lexLt_cons]
    by_cases h1 : x < y
    · have h3 : ¬ x = y := by omega
      simp [h1, h3]
    · by_cases h2 : y < x
      · have h3 : ¬ x = y := by omega
        simp [h1, h2, h3]
      · have h3 : x = y := by omega
        simp [h3]
theorem py_pr (x : PW) : pyD (pr x) = .tuple [.int x.1, .tuple (x.2.map PyData.int)] := by
  show PyData.tuple [.int x.1, pyD (wd x.2)] = _
  rw [wd_eq]
  show PyData.tuple [.int x.1, .tuple (pyDs (x.2.map D.int))] = _
  rw [pyDs_map, List.map_map]
  rfl
theorem lt_pr (x y : PW) : dataLt (pyD (pr x)) (pyD (pr y)) = ltP x y := by
  rw [py_pr, py_pr]
  show PyProof.Rows.lexLt itemOrd (.inl 1 :: .inl x.1 :: .inl 1 :: (keyToksAll (x.2.map PyData.int) ++ [.inl 0])) (.inl 1 :: .inl y.1 :: .inl 1 :: (keyToksAll (y.2.map PyData.int) ++ [.inl 0])) = _
  rw [lex_cons, lex_cons, lex_cons, lex_words, blt_int, blt_int, blt_int]
  unfold ltP ltW
  by_cases h1 : x.1 < y.1
  · simp [h1]
  · by_cases h2 : y.1 < x.1
    · have h3 : ¬ x.1 = y.1 := by omega
      simp [h1, h2, h3]
    · have h3 : x.1 = y.1 := by omega
      simp [h3]
def leP (x y : PW) : Bool := !ltP y x
theorem le_pr (x y : PW) : dataLe false pyD (pr x) (pr y) = leP x y := by
  unfold leP
  rw [← lt_pr]
  rfl
def sortP (l : List PW) : List PW := l.mergeSort leP
theorem alike_ints : ∀ a b : List Int, alikeAll (a.map PyData.int) (b.map PyData.int) = true
  | [], _ => by cases ‹List Int› <;> rfl
  | _ :: _, [] => rfl
  | x :: a, y :: b => by
    show (true && alikeAll (a.map PyData.int) (b.map PyData.int)) = true
    rw [alike_ints a b]; rfl
theorem alike_pr (x y : PW) : alike (pyD (pr x)) (pyD (pr y)) = true := by
  rw [py_pr, py_pr]
  show (true && (alikeAll (x.2.map PyData.int) (y.2.map PyData.int) && true)) = true
  rw [alike_ints]; rfl
theorem sort_pairs (l : List PW) : dSorted2 [.lst (l.map pr)] = .ok (.node .lst ((sortP l).map fun x => .dat (pr x))) := by
  cases l with
  | nil =>
    have h0 : iOfs (.lst []) = some [] := rfl
    unfold dSorted2
    simp [h0, sortI, sortP]
  | cons x l =>
    have h0 : iOfs (.lst ((x :: l).map pr)) = none := rfl
    have h1 : lOf (.lst ((x :: l).map pr)) = some ((x :: l).map pr) := rfl
    have ok : okSort ((x :: l).map pr) := by
      refine ⟨?_, fun d hd d' hd' => ?_, .inl (.inl fun d hd => ?_)⟩
      · show okEs 8 ((x :: l).map pr) = true
        exact prs_okE
      · rw [List.map_map] at hd hd'
        obtain ⟨y, _, rfl⟩ := List.mem_map.mp hd
        obtain ⟨y', _, rfl⟩ := List.mem_map.mp hd'
        exact alike_pr y y'
      · rw [List.map_map] at hd
        obtain ⟨y, _, rfl⟩ := List.mem_map.mp hd
        exact ⟨_, _, py_pr y⟩
    unfold dSorted2
    simp only [h0, h1]
    rw [if_pos ok]
    congr 2
    unfold sortP
    rw [← List.map_mergeSort (r := leP) (s := dataLe false pyD) (f := pr) (fun a _ b _ => (le_pr a b).symm), List.map_map]
    rfl
theorem ltW_irr : ∀ a : List Int, ltW a a = false
  | [] => rfl
  | x :: a => by unfold ltW; rw [HT.lexLt_cons, if_pos rfl]; exact ltW_irr a
theorem ltW_trans : ∀ {a b c : List Int}, ltW a b = true → ltW b c = true → ltW a c = true
  | [], [], _, h, _ => by cases h
  | [], _ :: _, [], _, h => by cases h
  | [], _ :: _, _ :: _, _, _ => rfl
  | _ :: _, [], _, h, _ => by cases h
  | _ :: _, _ :: _, [], _, h => by cases h
  | x :: a, y :: b, z :: c, h1, h2 => by
    unfold ltW at h1 h2 ⊢
    rw [HT.lexLt_cons] at h1 h2 ⊢
    by_cases e1 : x = y
    · subst e1
      rw [if_pos rfl] at h1
      by_cases e2 : x = z
      · rw [if_pos e2] at h2 ⊢; exact ltW_trans h1 h2
      · rw [if_neg e2] at h2 ⊢; exact h2
    · rw [if_neg e1, decide_eq_true_eq] at h1
      by_cases e2 : y = z
      · subst e2
        rw [if_neg e1]; exact decide_eq_true h1
      · rw [if_neg e2, decide_eq_true_eq] at h2
        have : ¬ x = z := by omega
        rw [if_neg this, decide_eq_true_eq]; omega
theorem ltW_tot : ∀ {a b : List Int}, ltW a b = false → ltW b a = false → a = b
  | [], [], _, _ => rfl
  | [], _ :: _, h, _ => by cases h
  | _ :: _, [], _, h => by cases h
  | x :: a, y :: b, h1, h2 => by
    unfold ltW at h1 h2
    rw [HT.lexLt_cons] at h1 h2
    by_cases e : x = y
    · subst e
      rw [if_pos rfl] at h1 h2
      rw [ltW_tot h1 h2]
    · rw [if_neg e] at h1
      rw [if_neg (fun k => e k.symm)] at h2
      simp at h1 h2
      omega
theorem ltP_iff {x y : PW} : ltP x y = true ↔ x.1 < y.1 ∨ (x.1 = y.1 ∧ ltW x.2 y.2 = true) := by
  unfold ltP
  simp
theorem ltP_irr (x : PW) : ltP x x = false := by
  rw [← Bool.not_eq_true, ltP_iff]
  rintro (h | ⟨_, h⟩)
  · omega
  · rw [ltW_irr] at h; cases h
theorem ltP_trans {x y z : PW} (h1 : ltP x y = true) (h2 : ltP y z = true) : ltP x z = true := by
  rw [ltP_iff] at h1 h2 ⊢
  rcases h1 with h1 | ⟨h1, k1⟩ <;> rcases h2 with h2 | ⟨h2, k2⟩
  · exact .inl (by omega)
  · exact .inl (by omega)
  · exact .inl (by omega)
  · exact .inr ⟨by omega, ltW_trans k1 k2⟩
theorem ltP_tot {x y : PW} (h1 : ltP x y = false) (h2 : ltP y x = false) : x = y := by
  rw [← Bool.not_eq_true, ltP_iff] at h1 h2
  simp only [not_or, not_and, Bool.not_eq_true] at h1 h2
  have e : x.1 = y.1 := by omega
  exact Prod.ext e (ltW_tot (h1.2 e) (h2.2 e.symm))
theorem leP_trans (a b c : PW) (h1 : leP a b = true) (h2 : leP b c = true) : leP a c = true := by
  unfold leP at h1 h2 ⊢
  rw [Bool.not_eq_true'] at h1 h2 ⊢
  cases h : ltP c a with
  | false => rfl
  | true =>
    -- c < a; b is not below a, c not below b
    cases hb : ltP a b with
    | true => rw [ltP_trans h hb] at h2; cases h2
    | false =>
      have := ltP_tot hb h1
      subst this
      rw [h] at h2; cases h2
theorem leP_total (a b : PW) : (leP a b || leP b a) = true := by
  unfold leP
  cases h1 : ltP b a with
  | false => rfl
  | true =>
    cases h2 : ltP a b with
    | false => rfl
    | true =>
      have := ltP_trans h1 h2
      rw [ltP_irr] at this; cases this
theorem sortP_perm (l : List PW) : (sortP l).Perm l := List.mergeSort_perm l leP
theorem sortP_sorted (l : List PW) : (sortP l).Pairwise fun a b => leP a b = true := List.pairwise_mergeSort leP_trans leP_total l
theorem sortP_len (l : List PW) : (sortP l).length = l.length := (sortP_perm l).length_eq
theorem mem_sortP {x : PW} {l : List PW} : x ∈ sortP l ↔ x ∈ l := (sortP_perm l).mem_iff
@[simp] theorem wd_enum {w : List Int} : enD2 [wd w] = some (enumD (w.map .int)) := rfl
theorem enum_ints (p : List Int) : enumD (p.map D.int) = (List.range p.length).map fun (i : Nat) => D.tup [.int (i : Int), .int (p[i]?.getD 0)] := by
  unfold enumD
  refine List.ext_getElem (by simp) fun i h1 h2 => ?_
  have hi : i < p.length := by simpa using h2
  simp [hi]
@[simp] theorem toDat_p {ρ : Env} {i : Nat} : toDat ρ (.plc i []) = match ρ[i]? with
    | some (some o) => (freeze o).map fun d => (d, ρ.set i (some (.dat d)))
    | _ => none := by
  show (match getP ρ i [] with
    | some o => (freeze o).map fun d => (d, putP ρ i [] (.dat d))
    | none => none) = _
  rw [getP_nil]
  cases z : ρ[i]? with
  | none => rfl
  | some x =>
    cases x with
    | none => rfl
    | some o => simp only [Option.join_some, putP_nil, z]
@[simp] theorem toDats_p {ρ : Env} {i : Nat} {os : List Opd} : toDats ρ (.plc i [] :: os) = match ρ[i]? with
    | some (some o) => (freeze o).bind fun d => (toDats (ρ.set i (some (.dat d))) os).map fun q => (d :: q.1, q.2)
    | _ => none := by
  show (match toDat ρ (.plc i []) with
    | some (d, ρ1) => (match toDats ρ1 os with
      | some (ds, ρ2) => some (d :: ds, ρ2)
      | none => none)
    | none => none) = _
  rw [toDat_p]
  cases z : ρ[i]? with
  | none => rfl
  | some x =>
    cases x with
    | none => rfl
    | some o =>
      cases y : freeze o with
      | none => simp [y]
      | some d =>
        cases t : toDats (ρ.set i (some (.dat d))) os with
        | none => simp [y, t]
        | some q => simp [y, t]
end FL
namespace FL
open PySem L2 PySem.W
open PyProof.Rows (itemOrd listOrd)
theorem py_wd (w : List Int) : pyD (wd w) = .tuple (w.map PyData.int) := by
  rw [wd_eq]
  show PyData.tuple (pyDs (w.map D.int)) = _
  rw [pyDs_map, List.map_map]
  rfl
theorem lt_wd (a b : List Int) : dataLt (pyD (wd a)) (pyD (wd b)) = ltW a b := by
  rw [py_wd, py_wd]
  have := lex_words [] a b
  rw [List.append_nil, List.append_nil] at this
  exact this
def leW (x y : List Int) : Bool := !ltW y x
theorem le_wd (x y : List Int) : dataLe false pyD (wd x) (wd y) = leW x y := by
  unfold leW
  rw [← lt_wd]
  rfl
def sortW (l : List (List Int)) : List (List Int) := l.mergeSort leW
theorem alike_wd (x y : List Int) : alike (pyD (wd x)) (pyD (wd y)) = true := by
  rw [py_wd, py_wd]
  exact alike_ints x y
theorem iOfs_wds (x : List Int) (l : List (List Int)) : iOfs (.lst ((x :: l).map wd)) = none := rfl
theorem sort_words (l : List (List Int)) (h : (∀ w ∈ l, w ≠ []) ∨ l.length ≤ 1) : dSorted2 [.lst (l.map wd)] = .ok (.node .lst ((sortW l).map fun x => .dat (wd x))) := by
  cases l with
  | nil =>
    have h0 : iOfs (.lst []) = some [] := rfl
    unfold dSorted2
    simp [h0, sortI, sortW]
  | cons x l =>
    have h0 : iOfs (.lst ((x :: l).map wd)) = none := rfl
    have h1 : lOf (.lst ((x :: l).map wd)) = some ((x :: l).map wd) := rfl
    have ok : okSort ((x :: l).map wd) := by
      refine ⟨?_, fun d hd d' hd' => ?_, ?_⟩
      · show okEs 8 ((x :: l).map wd) = true
        exact wds_okE
      · rw [List.map_map] at hd hd'
        obtain ⟨y, _, rfl⟩ := List.mem_map.mp hd
        obtain ⟨y', _, rfl⟩ := List.mem_map.mp hd'
        exact alike_wd y y'
      · rcases h with h | h
        · refine .inl (.inl fun d hd => ?_)
          rw [List.map_map] at hd
          obtain ⟨y, hy, rfl⟩ := List.mem_map.mp hd
          cases z : y with
          | nil => exact absurd z (h y hy)
          | cons a r => exact ⟨_, _, py_wd (a :: r)⟩
        · refine .inr ⟨by rw [List.length_map, List.length_map]; exact h, fun d hd e => ?_⟩
          rw [List.map_map] at hd
          obtain ⟨y, hy, rfl⟩ := List.mem_map.mp hd
          have e : pyD (wd y) = .none := e
          rw [py_wd] at e
          cases e
    unfold dSorted2
    simp only [h0, h1]
    rw [if_pos ok]
    congr 2
    unfold sortW
    rw [← List.map_mergeSort (r := leW) (s := dataLe false pyD) (f := wd) (fun a _ b _ => (le_wd a b).symm), List.map_map]
    rfl
theorem leW_trans (a b c : List Int) (h1 : leW a b = true) (h2 : leW b c = true) : leW a c = true := by
  unfold leW at h1 h2 ⊢
  rw [Bool.not_eq_true'] at h1 h2 ⊢
  cases h : ltW c a with
  | false => rfl
  | true =>
    cases hb : ltW a b with
    | true => rw [ltW_trans h hb] at h2; cases h2
    | false =>
      have := ltW_tot hb h1
      subst this
      rw [h] at h2; cases h2
theorem leW_total (a b : List Int) : (leW a b || leW b a) = true := by
  unfold leW
  cases h1 : ltW b a with
  | false => rfl
  | true =>
    cases h2 : ltW a b with
    | false => rfl
    | true =>
      have := ltW_trans h1 h2
      rw [ltW_irr] at this; cases this
theorem sortW_perm (l : List (List Int)) : (sortW l).Perm l := List.mergeSort_perm l leW
theorem sortW_sorted (l : List (List Int)) : (sortW l).Pairwise fun a b => leW a b = true := List.pairwise_mergeSort leW_trans leW_total l
theorem sortW_len (l : List (List Int)) : (sortW l).length = l.length := (sortW_perm l).length_eq
def minW (x : List Int) (l : List (List Int)) : List Int := l.foldl (fun a y => if ltW y a = true then y else a) x
theorem minDD_wd (x : List Int) (l : List (List Int)) : minDD (wd x) (l.map wd) = wd (minW x l) := by
  unfold minDD minW
  induction l generalizing x with
  | nil => rfl
  | cons y l ih =>
    rw [List.map_cons, List.foldl_cons, List.foldl_cons, lt_wd]
    by_cases h : ltW y x = true
    · rw [if_pos h, if_pos h, ih]
    · rw [if_neg h, if_neg h, ih]
theorem plain_ints : ∀ l : List Int, plainDs (l.map D.int) = true
  | [] => rfl
  | x :: l => by
    show (true && plainDs (l.map D.int)) = true
    rw [plain_ints l]; rfl
theorem plain_wds : ∀ l : List (List Int), plainDs (l.map wd) = true
  | [] => rfl
  | x :: l => by
    show (plainDs (x.map D.int) && plainDs (l.map wd)) = true
    rw [plain_ints, plain_wds l]; rfl
theorem min_words (x : List Int) (l : List (List Int)) : dMin2 [.lst ((x :: l).map wd)] = .ok (.dat (wd (minW x l))) := by
  have h0 : (lOf (.lst ((x :: l).map wd))).bind intsOf = none := rfl
  have h1 : seqI (.lst ((x :: l).map wd)) = some (wd x :: l.map wd) := rfl
  have ok : okMin (wd x :: l.map wd) := by
    refine ⟨?_, plain_wds (x :: l), fun d hd d' hd' => ?_, fun d hd e => ?_⟩
    · show okEs 8 ((x :: l).map wd) = true
      exact wds_okE
    · have hd : d ∈ ((x :: l).map wd).map pyD := hd
      have hd' : d' ∈ ((x :: l).map wd).map pyD := hd'
      rw [List.map_map] at hd hd'
      obtain ⟨y, _, rfl⟩ := List.mem_map.mp hd
      obtain ⟨y', _, rfl⟩ := List.mem_map.mp hd'
      exact alike_wd y y'
    · have hd : d ∈ ((x :: l).map wd).map pyD := hd
      rw [List.map_map] at hd
      obtain ⟨y, hy, rfl⟩ := List.mem_map.mp hd
      have e : pyD (wd y) = .none := e
      rw [py_wd] at e
      cases e
  unfold dMin2
  simp only [h0, h1]
  rw [if_pos ok, minDD_wd]
theorem minW_mem (x : List Int) (l : List (List Int)) : minW x l ∈ x :: l := by
  unfold minW
  induction l generalizing x with
  | nil => simp
  | cons y l ih =>
    rw [List.foldl_cons]
    have := ih (if ltW y x = true then y else x)
    rcases List.mem_cons.mp this with e | m
    · rw [e]
      by_cases h : ltW y x = true
      · rw [if_pos h]; simp
      · rw [if_neg h]; simp
    · simp [m]
theorem minW_le (x : List Int) (l : List (List Int)) : ∀ y ∈ x :: l, leW (minW x l) y = true := by
  unfold minW
  induction l generalizing x with
  | nil =>
    intro y hy
    simp at hy
    subst hy
    unfold leW
    show (!ltW y y) = true
    rw [ltW_irr]; rfl
  | cons z l ih =>
    intro y hy
    rw [List.foldl_cons]
    have ih := ih (if ltW z x = true then z else x)
    have h0 := ih _ List.mem_cons_self
    rcases List.mem_cons.mp hy with rfl | hy
    · refine leW_trans _ _ _ h0 ?_
      by_cases h : ltW z y = true
      · rw [if_pos h]
        unfold leW
        rw [Bool.not_eq_true']
        cases k : ltW y z with
        | false => rfl
        | true => have := ltW_trans h k; rw [ltW_irr] at this; cases this
      · rw [if_neg h]
        unfold leW
        rw [ltW_irr]; rfl
    · rcases List.mem_cons.mp hy with rfl | hy
      · refine leW_trans _ _ _ h0 ?_
        by_cases h : ltW y x = true
        · rw [if_pos h]
          unfold leW
          rw [ltW_irr]; rfl
        · rw [if_neg h]
          unfold leW
          rw [Bool.not_eq_true']
          simpa using h
      · exact ih y (List.mem_cons_of_mem _ hy)
theorem ok_pr (x y : PW) : okCmp (pr x) (pr y) := ⟨pr_okE, pr_okE, alike_pr x y, by rw [py_pr]; intro h; cases h⟩
theorem ok_wd (x y : List Int) : okCmp (wd x) (wd y) := ⟨wd_okE, wd_okE, alike_wd x y, by rw [py_wd]; intro h; cases h⟩
@[simp] theorem pr_lt (x y : PW) : dLt (pr x) (pr y) = .ok (.dat (.bl (ltP x y))) := by
  show cmpG dataLt (pr x) (pr y) = _
  unfold cmpG
  rw [if_pos (ok_pr x y)]
  simp only [lt_pr]
@[simp] theorem pr_gt (x y : PW) : dGt (pr x) (pr y) = .ok (.dat (.bl (ltP y x))) := by
  show cmpG (fun x y => dataLt y x) (pr x) (pr y) = _
  unfold cmpG
  rw [if_pos (ok_pr x y)]
  simp only [lt_pr]
@[simp] theorem pr_le (x y : PW) : dLe (pr x) (pr y) = .ok (.dat (.bl (!ltP y x))) := by
  show cmpG (fun x y => !dataLt y x) (pr x) (pr y) = _
  unfold cmpG
  rw [if_pos (ok_pr x y)]
  simp only [lt_pr]
@[simp] theorem pr_ge (x y : PW) : dGe (pr x) (pr y) = .ok (.dat (.bl (!ltP x y))) := by
  show cmpG (fun x y => !dataLt x y) (pr x) (pr y) = _
  unfold cmpG
  rw [if_pos (ok_pr x y)]
  simp only [lt_pr]
@[simp] theorem wd_gt (x y : List Int) : dGt (wd x) (wd y) = .ok (.dat (.bl (ltW y x))) := by
  show cmpG (fun x y => dataLt y x) (wd x) (wd y) = _
  unfold cmpG
  rw [if_pos (ok_wd x y)]
  simp only [lt_wd]
@[simp] theorem wd_le (x y : List Int) : dLe (wd x) (wd y) = .ok (.dat (.bl (!ltW y x))) := by
  show cmpG (fun x y => !dataLt y x) (wd x) (wd y) = _
  unfold cmpG
  rw [if_pos (ok_wd x y)]
  simp only [lt_wd]
@[simp] theorem wd_ge (x y : List Int) : dGe (wd x) (wd y) = .ok (.dat (.bl (!ltW x y))) := by
  show cmpG (fun x y => !dataLt x y) (wd x) (wd y) = _
  unfold cmpG
  rw [if_pos (ok_wd x y)]
  simp only [lt_wd]
end FL
namespace FL
open PySem L2
theorem sForO_ap {i : Nat} {b : FG} {f : FS} {ρ : Env} {l : List O} {ds : List D} (h : ρ[i]? = some (some (.node .lst l))) (hd : dats l = some ds) : sForO i b f ρ = forO i (.node .lst l) b f ds ρ := by
  unfold sForO
  rw [h]
  dsimp only
  rw [hd]
theorem forO_all {α : Type} {i : Nat} {o : O} {q : α → D} {b : FG} {f : FS} {P : Env → Prop} (hP : ∀ ρ, P ρ → ρ[i]? = some (some o)) : ∀ (l : List α), (∀ x ∈ l, ∀ ρ, P ρ → ∃ ρ1, b (q x) ρ = some ρ1 ∧ Goes (f ρ1) P) → ∀ ρ, P ρ → ∃ ρ', forO i o b f (l.map q) ρ = .ok .nx ρ' ∧ P ρ'
  | [], _, ρ, h => ⟨ρ, if_pos (hP ρ h), h⟩
  | x :: l, H, ρ, h => by
    obtain ⟨ρ1, e1, ρ2, e2, h2⟩ := H x List.mem_cons_self ρ h
    obtain ⟨ρ', e3, h3⟩ := forO_all hP l (fun y hy => H y (List.mem_cons_of_mem _ hy)) ρ2 h2
    refine ⟨ρ', ?_, h3⟩
    rw [List.map_cons]
    unfold forO
    rw [if_pos (hP ρ h), e1]
    dsimp only
    rcases e2 with e2 | e2 <;> rw [e2] <;> exact e3
end FL
namespace FL
open PySem L2
variable {ρ : FL.Env} {i k : Nat}
@[simp] theorem getP_1 : getP ρ i [k] = match ρ[i]? with
    | some (some (.node t l)) => l[k]?
    | some (some (.pck l)) => l[k]?
    | _ => none := by
  unfold getP
  cases ρ[i]? with
  | none => rfl
  | some x =>
    cases x with
    | none => rfl
    | some o =>
      cases o with
      | dat d => rfl
      | node t l =>
        show (O.node t l).at [k] = l[k]?
        rw [O.at_cons]
        cases l[k]? with
        | none => rfl
        | some o => exact O.at_nil o
      | pck l =>
        show (O.pck l).at [k] = l[k]?
        rw [O.atk_cons]
        cases l[k]? with
        | none => rfl
        | some o => exact O.at_nil o
def rdK : Option O → Option D
  | some (.node t2 l2) => (dats l2).map (mkD t2)
  | some (.pck l2) => (dats l2).map .tup
  | _ => none
@[simp] theorem rd_1 : rd ρ (.plc i [k]) = match ρ[i]? with
    | some (some (.node t l)) => (match l[k]? with
      | some (.node t2 l2) => (dats l2).map (mkD t2)
      | some (.pck l2) => (dats l2).map .tup
      | _ => none)
    | some (some (.pck l)) => (match l[k]? with
      | some (.node t2 l2) => (dats l2).map (mkD t2)
      | some (.pck l2) => (dats l2).map .tup
      | _ => none)
    | _ => none := by
  show (match ρ[i]? with
    | some (some o) => (match o.at [k] with
      | some (.node t l) => (dats l).map (mkD t)
      | some (.pck l) => (dats l).map .tup
      | _ => none)
    | _ => none) = _
  cases ρ[i]? with
  | none => rfl
  | some x =>
    cases x with
    | none => rfl
    | some o =>
      cases o with
      | dat d => rfl
      | node t l =>
        dsimp only
        rw [O.at_cons]
        cases z : l[k]? with
        | none => rfl
        | some o =>
          cases o <;> rfl
      | pck l =>
        dsimp only
        rw [O.atk_cons]
        cases z : l[k]? with
        | none => rfl
        | some o =>
          cases o <;> rfl
theorem putP_1 {t : Tag} {l : List O} {o o' : O} (h : ρ[i]? = some (some (.node t l))) (hk : l[k]? = some o) : putP ρ i [k] o' = ρ.set i (some (.node t (l.set k o'))) := by
  unfold putP
  rw [h]
  dsimp only
  rw [O.put_cons, hk]
  dsimp only
  rw [O.put_nil]
theorem putPk_1 {l : List O} {o o' : O} (h : ρ[i]? = some (some (.pck l))) (hk : l[k]? = some o) : putP ρ i [k] o' = ρ.set i (some (.pck (l.set k o'))) := by
  unfold putP
  rw [h]
  dsimp only
  rw [O.putk_cons, hk]
  dsimp only
  rw [O.put_nil]
@[simp] theorem muRes_1 {M : Mu} {args : List O} : muRes M i [k] args ρ = match ρ[i]? with
    | some (some (.node t l)) => (match l[k]? with
      | some (.node t2 l2) => (match M t2 l2 args with
        | some (t', l', res) => .ok (.tmp res) (ρ.set i (some (.node t (l.set k (.node t' l')))))
        | none => .bad)
      | _ => .bad)
    | some (some (.pck l)) => (match l[k]? with
      | some (.node t2 l2) => (match M t2 l2 args with
        | some (t', l', res) => .ok (.tmp res) (ρ.set i (some (.pck (l.set k (.node t' l')))))
        | none => .bad)
      | _ => .bad)
    | _ => .bad := by
  unfold muRes
  rw [getP_1]
  cases z : ρ[i]? with
  | none => rfl
  | some x =>
    cases x with
    | none => rfl
    | some o =>
      cases o with
      | dat d => rfl
      | node t l =>
        dsimp only
        cases y : l[k]? with
        | none => simp [y]
        | some o =>
          cases o with
          | dat d => simp [y]
          | pck l2 => simp [y]
          | node t2 l2 =>
            simp only [y]
            cases M t2 l2 args with
            | none => rfl
            | some q =>
              obtain ⟨t', l', res⟩ := q
              simp only
              rw [putP_1 z y]
      | pck l =>
        dsimp only
        cases y : l[k]? with
        | none => simp [y]
        | some o =>
          cases o with
          | dat d => simp [y]
          | pck l2 => simp [y]
          | node t2 l2 =>
            simp only [y]
            cases M t2 l2 args with
            | none => rfl
            | some q =>
              obtain ⟨t', l', res⟩ := q
              simp only
              rw [putPk_1 z y]
end FL
namespace FL
open PySem L2
def cO {α : Type} (c : α → D) : Option α → D
  | none => .non
  | some a => c a
def cL {α : Type} (c : α → D) (l : List α) : D := .lst (l.map c)
def cT {α : Type} (c : α → D) (l : List α) : D := .tup (l.map c)
def cS (l : List Int) : D := .scr (l.map .int)
def cP {α β : Type} (a : α → D) (b : β → D) (p : α × β) : D := .tup [a p.1, b p.2]
def cP3 {α β γ : Type} (a : α → D) (b : β → D) (c : γ → D) (p : α × β × γ) : D := .tup [a p.1, b p.2.1, c p.2.2]
def cP4 {α β γ δ : Type} (a : α → D) (b : β → D) (c : γ → D) (d : δ → D) (p : α × β × γ × δ) : D := .tup [a p.1, b p.2.1, c p.2.2.1, d p.2.2.2]
def cN (_ : Unit) : D := .non
def hD {α : Type} (c : α → D) (x : α) : O := .dat (c x)
def hL {α : Type} (h : α → O) (l : List α) : O := .node .lst (l.map h)
mutual
theorem okE_mono : ∀ (d : D) {n m : Nat}, n ≤ m → okE n d = true → okE m d = true
  | .non, n, m, _, _ => okE_non m
  | .bl b, n, m, _, _ => okE_bl m b
  | .int i, n, m, _, _ => okE_int i m
  | .str s, n, m, _, h => by cases n <;> cases m <;> exact h
  | .tup l, n, m, hn, h => by
    cases n with
    | zero => cases h
    | succ n =>
      cases m with
      | zero => omega
      | succ m => exact okEs_mono l (Nat.le_of_succ_le_succ hn) h
  | .lst l, n, m, hn, h => by
    cases n with
    | zero => cases h
    | succ n =>
      cases m with
      | zero => omega
      | succ m => exact okEs_mono l (Nat.le_of_succ_le_succ hn) h
  | .scr l, n, m, hn, h => by
    cases n with
    | zero => cases h
    | succ n =>
      cases m with
      | zero => omega
      | succ m => exact okEs_mono l (Nat.le_of_succ_le_succ hn) h
  | .obj t l, n, m, hn, h => by cases n <;> cases h
  | .exn a dx ns l, n, m, hn, h => by cases n <;> cases h
theorem okEs_mono : ∀ (l : List D) {n m : Nat}, n ≤ m → okEs n l = true → okEs m l = true
  | [], n, m, _, _ => okEs_nil m
  | d :: l, n, m, hn, h => by
    rw [okEs_cons, Bool.and_eq_true] at h
    rw [okEs_cons, okE_mono d hn h.1, okEs_mono l hn h.2]
    rfl
end
class Gd {α : Type} [DecidableEq α] (c : α → D) (n : outParam Nat) : Prop where
  eq : ∀ x y, eqD (c x) (c y) = decide (x = y)
  ok : ∀ x, okE n (c x) = true
class Cn {α : Type} (c : α → D) : Prop where
  cl : ∀ x, clean (c x) = true
class Nn {α : Type} (c : α → D) : Prop where
  nn : ∀ x, isNon (c x) = false
  n1 : ∀ x, eqD (c x) .non = false
  n2 : ∀ x, eqD .non (c x) = false
instance gdI : Gd D.int 0 := ⟨fun x y => eqD_int x y, fun x => okE_int x 0⟩
instance gdB : Gd D.bl 0 := ⟨fun x y => by rw [eqD_bl]; cases x <;> cases y <;> rfl, fun x => okE_bl 0 x⟩
instance gdL {α : Type} [DecidableEq α] {c : α → D} {n : Nat} [g : Gd c n] : Gd (cL c) (n + 1) :=
  ⟨fun x y => eqDs_map g.eq x y, fun x => okEs_all fun y _ => g.ok y⟩
instance gdT {α : Type} [DecidableEq α] {c : α → D} {n : Nat} [g : Gd c n] : Gd (cT c) (n + 1) :=
  ⟨fun x y => eqDs_map g.eq x y, fun x => okEs_all fun y _ => g.ok y⟩
instance gdO {α : Type} [DecidableEq α] {c : α → D} {n : Nat} [g : Gd c n] [k : Nn c] : Gd (cO c) n :=
  ⟨fun x y => by
    cases x with
    | none => cases y with
      | none => rfl
      | some y => exact (k.n2 y).trans (decide_eq_false (by intro h; cases h)).symm
    | some x => cases y with
      | none => exact (k.n1 x).trans (decide_eq_false (by intro h; cases h)).symm
      | some y =>
        show eqD (c x) (c y) = _
        rw [g.eq, decide_eq_decide, Option.some.injEq], fun x => by
    cases x with
    | none => exact okE_non n
    | some x => exact g.ok x⟩
instance gdP {α β : Type} [DecidableEq α] [DecidableEq β] {a : α → D} {b : β → D} {n m : Nat} [g : Gd a n] [k : Gd b m] : Gd (cP a b) (n + m + 1) :=
  ⟨fun x y => by
    show (eqD (a x.1) (a y.1) && (eqD (b x.2) (b y.2) && true)) = _
    rw [g.eq, k.eq, Bool.and_true, ← Bool.decide_and, decide_eq_decide, Prod.ext_iff], fun x => by
    show okEs (n + m) [a x.1, b x.2] = true
    rw [okEs_cons, okEs_cons, okE_mono _ (by omega) (g.ok x.1), okE_mono _ (by omega) (k.ok x.2), okEs_nil]
    rfl⟩
instance gdP3 {α β γ : Type} [DecidableEq α] [DecidableEq β] [DecidableEq γ] {a : α → D} {b : β → D} {c : γ → D} {n m p : Nat} [g : Gd a n] [k : Gd b m] [l : Gd c p] : Gd (cP3 a b c) (n + m + p + 1) :=
  ⟨fun x y => by
    show (eqD (a x.1) (a y.1) && (eqD (b x.2.1) (b y.2.1) && (eqD (c x.2.2) (c y.2.2) && true))) = _
    rw [g.eq, k.eq, l.eq, Bool.and_true, ← Bool.decide_and, ← Bool.decide_and, decide_eq_decide, Prod.ext_iff, Prod.ext_iff], fun x => by
    show okEs (n + m + p) [a x.1, b x.2.1, c x.2.2] = true
    rw [okEs_cons, okEs_cons, okEs_cons, okE_mono _ (by omega) (g.ok x.1), okE_mono _ (by omega) (k.ok x.2.1), okE_mono _ (by omega) (l.ok x.2.2), okEs_nil]
    rfl⟩
instance cnI : Cn D.int := ⟨fun _ => rfl⟩
instance cnB : Cn D.bl := ⟨fun _ => rfl⟩
instance cnT {α : Type} {c : α → D} [g : Cn c] : Cn (cT c) := ⟨fun x => cleans_all fun y _ => g.cl y⟩
instance cnO {α : Type} {c : α → D} [g : Cn c] : Cn (cO c) := ⟨fun x => by
  cases x with
  | none => rfl
  | some x => exact g.cl x⟩
instance cnP {α β : Type} {a : α → D} {b : β → D} [g : Cn a] [k : Cn b] : Cn (cP a b) := ⟨fun x => by
  show (clean (a x.1) && (clean (b x.2) && true)) = true
  rw [g.cl, k.cl]; rfl⟩
instance cnP3 {α β γ : Type} {a : α → D} {b : β → D} {c : γ → D} [g : Cn a] [k : Cn b] [l : Cn c] : Cn (cP3 a b c) := ⟨fun x => by
  show (clean (a x.1) && (clean (b x.2.1) && (clean (c x.2.2) && true))) = true
  rw [g.cl, k.cl, l.cl]; rfl⟩
instance nnI : Nn D.int := ⟨fun _ => rfl, fun _ => rfl, fun _ => rfl⟩
instance nnL {α : Type} {c : α → D} : Nn (cL c) := ⟨fun _ => rfl, fun _ => rfl, fun _ => rfl⟩
instance nnT {α : Type} {c : α → D} : Nn (cT c) := ⟨fun _ => rfl, fun _ => rfl, fun _ => rfl⟩
instance nnP {α β : Type} {a : α → D} {b : β → D} : Nn (cP a b) := ⟨fun _ => rfl, fun _ => rfl, fun _ => rfl⟩
instance nnP3 {α β γ : Type} {a : α → D} {b : β → D} {c : γ → D} : Nn (cP3 a b c) := ⟨fun _ => rfl, fun _ => rfl, fun _ => rfl⟩
class Fz {α : Type} (h : α → O) (c : outParam (α → D)) : Prop where
  fz : ∀ x, freeze (h x) = some (c x)
instance fzD {α : Type} {c : α → D} : Fz (hD c) c := ⟨fun _ => rfl⟩
instance fzL {α : Type} {h : α → O} {c : α → D} [g : Fz h c] : Fz (hL h) (cL c) := ⟨fun x => by
  show freeze (.node .lst (x.map h)) = _
  rw [freeze_lst]
  have e : freezes (x.map h) = some (x.map c) := by
    induction x with
    | nil => rfl
    | cons y l ih => rw [List.map_cons, freezes_co, g.fz, ih]; rfl
  rw [e]; rfl⟩
class Cl {α : Type} (h : α → O) : Prop where
  cl : ∀ x, cleanO (h x) = true
instance clD {α : Type} {c : α → D} [g : Cn c] : Cl (hD c) := ⟨fun x => g.cl x⟩
instance clL {α : Type} {h : α → O} [g : Cl h] : Cl (hL h) := ⟨fun x => by
  show cleanOs (x.map h) = true
  induction x with
  | nil => rfl
  | cons y l ih => rw [List.map_cons, cleanOs_cons, g.cl, ih]; rfl⟩
theorem dats_h {α : Type} {c : α → D} (l : List α) : dats (l.map (hD c)) = some (l.map c) := dats_map3 c l
section
variable {ρ ρ1 : FL.Env} {i : Nat} {d x y : D} {o : O} {fe fa fb fc : FE} {fr : FA} {fos : FOs} {g h : FB} {a b : Bool} {ds : List D} {k : Int}
theorem l_var (h : ρ[i]? = some (some (.dat d))) : eVar i ρ = .ok (.tmp (.dat d)) := by rw [eVar_ap, h]
theorem l_own {t : Tag} {l : List O} (h : ρ[i]? = some (some (.node t l))) : eVar i ρ = .ok (.plc i []) := by rw [eVar_ap, h]
theorem l_k : eK d ρ = .ok (.tmp (.dat d)) := rfl
theorem r_d (h : fe ρ = .ok (.tmp (.dat d))) : rdE fe ρ = .ok d := by rw [rdE_ap, h]; rfl
theorem r_n {α : Type} {hh : α → O} {c : α → D} [z : Fz hh c] {v : α} (h : fe ρ = .ok (.tmp (hh v))) : rdE fe ρ = .ok (c v) := by rw [rdE_ap, h, Rs.bnd_ok, rd_tmp, z.fz]; rfl
theorem r_p {α : Type} {c : α → D} {l : List α} (h : ρ[i]? = some (some (hL (hD c) l))) : rdE (eVar i) ρ = .ok (cL c l) := by
  have h' : ρ[i]? = some (some (.node .lst (l.map (hD c)))) := h
  rw [rdE_ap, l_own h', Rs.bnd_ok, rd_plc, h']
  simp only [dats_h]
  rfl
theorem d_d (h : fe ρ = .ok (.tmp (.dat d))) : dE fe ρ = .ok d := by rw [dE_ap, h]; rfl
theorem d_n {α : Type} {hh : α → O} {c : α → D} [z : Fz hh c] {v : α} (h : fe ρ = .ok (.tmp (hh v))) : dE fe ρ = .ok (c v) := by rw [dE_ap, h, Rs.bnd_ok, dOf_tmp, z.fz]; rfl
theorem l_op {q : D → D → Rs O} (h1 : rdE fa ρ = .ok x) (h2 : rdE fb ρ = .ok y) (h3 : q x y = .ok o) : eOp q fa fb ρ = .ok (.tmp o) := by rw [eOp_ap, h1, Rs.bnd_ok, h2, Rs.bnd_ok, h3]; rfl
theorem l_un {q : D → Rs O} (h1 : rdE fa ρ = .ok x) (h3 : q x = .ok o) : eUn q fa ρ = .ok (.tmp o) := by rw [eUn_ap, h1, Rs.bnd_ok, h3]; rfl
theorem l_fn {q : List D → Rs O} (h1 : fr ρ = .ok ds) (h3 : q ds = .ok o) : eFn q fr ρ = .ok (.tmp o) := by rw [eFn_ap, h1, Rs.bnd_ok, h3]; rfl
theorem a_nil : aNil ρ = .ok [] := rfl
theorem a_cons (h1 : dE fe ρ = .ok d) (h2 : fr ρ = .ok ds) : aCons fe fr ρ = .ok (d :: ds) := by rw [aCons_ap, h1, Rs.bnd_ok, h2]; rfl
theorem r_cons (h1 : rdE fe ρ = .ok d) (h2 : fr ρ = .ok ds) : rCons fe fr ρ = .ok (d :: ds) := by rw [rCons_ap, h1, Rs.bnd_ok, h2]; rfl
theorem l_ix (h1 : fa ρ = .ok (.tmp (.dat x))) (h2 : rdE fb ρ = .ok y) (h3 : dIx2 x y = .ok o) : eIx fa fb ρ = .ok (.tmp o) := by
  rw [eIx_ap, h1, Rs.bnd_ok]
  simp only [freeze_dat, toRs_some, Rs.bnd_ok, h2, h3]
theorem l_ixn {α : Type} {hh : α → O} {c : α → D} [z : Fz hh c] {v : α} (h1 : fa ρ = .ok (.tmp (hh v))) (h2 : rdE fb ρ = .ok y) (h3 : dIx2 (c v) y = .ok o) : eIx fa fb ρ = .ok (.tmp o) := by
  rw [eIx_ap, h1, Rs.bnd_ok]
  simp only [z.fz, toRs_some, Rs.bnd_ok, h2, h3]
theorem l_ixp {α : Type} {c : α → D} {l : List α} {v : α} (h1 : ρ[i]? = some (some (hL (hD c) l))) (h2 : rdE fb ρ = .ok (.int k)) (h3 : atI l k = some v) : eIx (eVar i) fb ρ = .ok (.tmp (.dat (c v))) := by
  have h' : ρ[i]? = some (some (.node .lst (l.map (hD c)))) := h1
  rw [eIx_ap, l_own h', Rs.bnd_ok]
  simp only [h2, Rs.bnd_ok, getP_nil, h', Option.join_some]
  exact plcIx_lst (by rw [atI_map, h3]; rfl)
theorem ix_L {α : Type} {c : α → D} {l : List α} {v : α} (h : atI l k = some v) : dIx2 (cL c l) (.int k) = .ok (.dat (c v)) := dIx_lst _ (by rw [atI_map, h]; rfl)
theorem ix_T {α : Type} {c : α → D} {l : List α} {v : α} (h : atI l k = some v) : dIx2 (cT c l) (.int k) = .ok (.dat (c v)) := dIx_tup _ (by rw [atI_map, h]; rfl)
theorem ix_S {l : List Int} {v : Int} (h : atI l k = some v) : dIx2 (cS l) (.int k) = .ok (.dat (.int v)) := dIx_scr _ (by rw [atI_map, h]; rfl)
theorem l_cast {α : Type} {c : α → D} {t : Option α} {v : α} (h : fe ρ = .ok (.tmp (.dat (cO c t)))) (e : t = some v) : fe ρ = .ok (.tmp (.dat (c v))) := by rw [h, e]; rfl
theorem o_no : oNo ρ = .ok none := rfl
theorem o_so (h : rdE fe ρ = .ok (.int k)) : oSo fe ρ = .ok (some k) := by rw [oSo_ap, h]; rfl
theorem l_sl {fl fh : FO} {lo hi : Option Int} (h1 : rdE fa ρ = .ok x) (h2 : fl ρ = .ok lo) (h3 : fh ρ = .ok hi) (h4 : dSl x lo hi = .ok o) : eSl fa fl fh ρ = .ok (.tmp o) := by
  rw [eSl_ap, h1, Rs.bnd_ok, h2, Rs.bnd_ok, h3, Rs.bnd_ok, h4]; rfl
theorem sl_L {α : Type} {c : α → D} {l : List α} (lo hi : Option Int) : dSl (cL c l) lo hi = .ok (hL (hD c) (cutD l lo hi)) := by
  show Rs.ok (O.node .lst ((cutD (l.map c) lo hi).map .dat)) = .ok (.node .lst ((cutD l lo hi).map (hD c)))
  rw [cut_map, List.map_map]
  rfl
theorem sl_T {α : Type} {c : α → D} {l : List α} (lo hi : Option Int) : dSl (cT c l) lo hi = .ok (.dat (cT c (cutD l lo hi))) := by
  show Rs.ok (O.dat (.tup (cutD (l.map c) lo hi))) = .ok (.dat (.tup ((cutD l lo hi).map c)))
  rw [cut_map]
theorem sl_S {l : List Int} (lo hi : Option Int) : dSl (cS l) lo hi = .ok (hL (hD D.int) (cutD l lo hi)) := by
  show Rs.ok (O.node .lst ((cutD (l.map D.int) lo hi).map .dat)) = .ok (.node .lst ((cutD l lo hi).map (hD D.int)))
  rw [cut_map, List.map_map]; rfl
theorem len_L {α : Type} {c : α → D} {l : List α} : dLen [cL c l] = .ok (.dat (.int (l.length : Int))) := by
  show Rs.ok (O.dat (.int ((l.map c).length : Int))) = _
  rw [List.length_map]
theorem len_T {α : Type} {c : α → D} {l : List α} : dLen [cT c l] = .ok (.dat (.int (l.length : Int))) := by
  show Rs.ok (O.dat (.int ((l.map c).length : Int))) = _
  rw [List.length_map]
theorem len_S {l : List Int} : dLen [cS l] = .ok (.dat (.int (l.length : Int))) := by
  show Rs.ok (O.dat (.int ((l.map D.int).length : Int))) = _
  rw [List.length_map]
theorem b_e (h : fe ρ = .ok (.tmp (.dat (.bl b)))) : bE fe ρ = .ok b := by rw [bE_ap, h]; rfl
theorem b_and (h1 : g ρ = .ok a) (h2 : a = true → h ρ = .ok b) : bAnd g h ρ = .ok (a && b) := by
  rw [bAnd_ap, h1, Rs.bnd_ok]
  cases a with
  | true => exact h2 rfl
  | false => rfl
theorem b_or (h1 : g ρ = .ok a) (h2 : a = false → h ρ = .ok b) : bOr g h ρ = .ok (a || b) := by
  rw [bOr_ap, h1, Rs.bnd_ok]
  cases a with
  | true => rfl
  | false => exact h2 rfl
theorem b_andO {R : Option Bool} (h1 : g ρ = .ok a) (hb : (if a = true then R else some false) = some b) (h2 : ∀ b', R = some b' → h ρ = .ok b') : bAnd g h ρ = .ok b := by
  rw [bAnd_ap, h1, Rs.bnd_ok]
  cases a with
  | true => exact h2 b hb
  | false => cases hb; rfl
theorem b_orO {R : Option Bool} (h1 : g ρ = .ok a) (hb : (if a = true then some true else R) = some b) (h2 : ∀ b', R = some b' → h ρ = .ok b') : bOr g h ρ = .ok b := by
  rw [bOr_ap, h1, Rs.bnd_ok]
  cases a with
  | true => cases hb; rfl
  | false => exact h2 b hb
theorem b_not (h1 : g ρ = .ok a) : bNot g ρ = .ok (!a) := by rw [bNot_ap, h1]; rfl
theorem l_and (h1 : g ρ = .ok a) (h2 : a = true → fe ρ = .ok (.tmp (.dat (.bl b)))) : eAnd g fe ρ = .ok (.tmp (.dat (.bl (a && b)))) := by
  rw [eAnd_ap, h1, Rs.bnd_ok]
  cases a with
  | true => exact h2 rfl
  | false => rfl
theorem l_or (h1 : g ρ = .ok a) (h2 : a = false → fe ρ = .ok (.tmp (.dat (.bl b)))) : eOr g fe ρ = .ok (.tmp (.dat (.bl (a || b)))) := by
  rw [eOr_ap, h1, Rs.bnd_ok]
  cases a with
  | true => rfl
  | false => exact h2 rfl
theorem l_andO {R : Option Bool} (h1 : g ρ = .ok a) (hb : (if a = true then R else some false) = some b) (h2 : ∀ b', R = some b' → fe ρ = .ok (.tmp (.dat (.bl b')))) : eAnd g fe ρ = .ok (.tmp (.dat (.bl b))) := by
  rw [eAnd_ap, h1, Rs.bnd_ok]
  cases a with
  | true => exact h2 b hb
  | false => cases hb; rfl
theorem l_orO {R : Option Bool} (h1 : g ρ = .ok a) (hb : (if a = true then some true else R) = some b) (h2 : ∀ b', R = some b' → fe ρ = .ok (.tmp (.dat (.bl b')))) : eOr g fe ρ = .ok (.tmp (.dat (.bl b))) := by
  rw [eOr_ap, h1, Rs.bnd_ok]
  cases a with
  | true => cases hb; rfl
  | false => exact h2 b hb
theorem l_not (h1 : g ρ = .ok a) : eNot g ρ = .ok (.tmp (.dat (.bl (!a)))) := by rw [eNot_ap, h1]; rfl
theorem l_if {α : Type} {hh : α → O} {u v : α} (h1 : g ρ = .ok a) (h2 : a = true → fa ρ = .ok (.tmp (hh u))) (h3 : a = false → fb ρ = .ok (.tmp (hh v))) : eIf g fa fb ρ = .ok (.tmp (hh (if a = true then u else v))) := by
  rw [eIf_ap, h1, Rs.bnd_ok]
  cases a with
  | true => exact h2 rfl
  | false => exact h3 rfl
theorem l_ifO {α : Type} {hh : α → O} {R R2 : Option α} {v : α} (h1 : g ρ = .ok a) (hv : (if a = true then R else R2) = some v) (h2 : ∀ v, R = some v → fa ρ = .ok (.tmp (hh v))) (h3 : ∀ v, R2 = some v → fb ρ = .ok (.tmp (hh v))) : eIf g fa fb ρ = .ok (.tmp (hh v)) := by
  rw [eIf_ap, h1, Rs.bnd_ok]
  cases a with
  | true => exact h2 v hv
  | false => exact h3 v hv
theorem l_chain {q q2 : D → D → Rs O} {z : D} (h1 : rdE fa ρ = .ok x) (h2 : rdE fb ρ = .ok y) (h3 : q x y = .ok (.dat (.bl a))) (h4 : rdE fc ρ = .ok z) (h5 : q2 y z = .ok (.dat (.bl b))) : eChain q q2 fa fb fc ρ = .ok (.tmp (.dat (.bl (a && b)))) := by
  rw [eChain_ap, h1, Rs.bnd_ok, h2, Rs.bnd_ok, h3, Rs.bnd_ok, okT_ap, Rs.bnd_ok]
  cases a with
  | true => simp only [dOf_tmp, freeze_dat, Option.bind_some, bOf_bl, toRs_some, Rs.bnd_ok, if_true, h4, h5]; rfl
  | false => rfl
theorem eq_G {α : Type} [DecidableEq α] {c : α → D} {n : Nat} [z : Gd c n] {u v : α} (hn : n ≤ 8) : dEq (c u) (c v) = .ok (.dat (.bl (decide (u = v)))) := by
  rw [dEq_ok (okE_mono _ hn (z.ok u)) (okE_mono _ hn (z.ok v)), z.eq]
theorem ne_G {α : Type} [DecidableEq α] {c : α → D} {n : Nat} [z : Gd c n] {u v : α} (hn : n ≤ 8) : dNe (c u) (c v) = .ok (.dat (.bl (!decide (u = v)))) := by
  rw [dNe_ok (okE_mono _ hn (z.ok u)) (okE_mono _ hn (z.ok v)), z.eq]
theorem is_O {α : Type} {c : α → D} [z : Nn c] {u : Option α} : dIs (cO c u) .non = .ok (.dat (.bl u.isNone)) := by
  cases u with
  | none => rfl
  | some u => show Rs.ok (O.dat (.bl (isNon (c u)))) = _; rw [z.nn]; rfl
theorem isn_O {α : Type} {c : α → D} [z : Nn c] {u : Option α} : dIsN (cO c u) .non = .ok (.dat (.bl u.isSome)) := by
  cases u with
  | none => rfl
  | some u => show Rs.ok (O.dat (.bl (!isNon (c u)))) = _; rw [z.nn]; rfl
theorem is_Nn {α : Type} {c : α → D} [z : Nn c] {u : α} : dIs (c u) .non = .ok (.dat (.bl false)) := by
  show Rs.ok (O.dat (.bl (isNon (c u)))) = _; rw [z.nn]
theorem isn_Nn {α : Type} {c : α → D} [z : Nn c] {u : α} : dIsN (c u) .non = .ok (.dat (.bl true)) := by
  show Rs.ok (O.dat (.bl (!isNon (c u)))) = _; rw [z.nn]; rfl
theorem tup_ok (ds : List D) (h : ds.length ≤ 100) : dTup ds = .ok (.dat (.tup ds)) := by rw [dTup_ap, if_pos (szl (by omega))]
theorem lst_ok {α : Type} {c : α → D} (l : List α) (h : l.length ≤ 100) : dLst (l.map c) = .ok (hL (hD c) l) := by
  rw [dLst_ap, if_pos (szl (by rw [List.length_map]; omega)), List.map_map]; rfl
def Ar (ρ : FL.Env) (fos : FOs) (ds : List D) (b : Bool) : Prop := ∃ os, fos ρ = .ok os ∧ argDs ρ os = some ds ∧ os.all isTmp = b
theorem ar_nil : Ar ρ oNil [] true := ⟨[], rfl, rfl, rfl⟩
theorem ar_o {x : Opd} {t : Bool} (h1 : fe ρ = .ok x) (h2 : argD ρ x = some d) (h3 : isTmp x = t) : Ar ρ fos ds b → Ar ρ (oCons fe fos) (d :: ds) (t && b) := fun ⟨os, e1, e2, e3⟩ =>
  ⟨x :: os, by rw [oCons_ap, h1, Rs.bnd_ok, e1]; rfl, by rw [argDs_cons, h2, e2]; rfl, by rw [List.all_cons, h3, e3]⟩
theorem ar_d (h1 : fe ρ = .ok (.tmp (.dat d))) (h : Ar ρ fos ds b) : Ar ρ (oCons fe fos) (d :: ds) b := by
  have := ar_o h1 rfl rfl h
  exact this
theorem ar_n {α : Type} {hh : α → O} {c : α → D} [z : Fz hh c] {v : α} (h1 : fe ρ = .ok (.tmp (hh v))) (h : Ar ρ fos ds b) : Ar ρ (oCons fe fos) (c v :: ds) b := by
  have := ar_o h1 (z.fz v) rfl h
  exact this
theorem ar_p {α : Type} {hh : α → O} {c : α → D} [z : Fz hh c] {l : List α} (h1 : ρ[i]? = some (some (hL hh l))) (h : Ar ρ fos ds b) : Ar ρ (oCons (eVar i) fos) (cL c l :: ds) false := by
  have h' : ρ[i]? = some (some (.node .lst (l.map hh))) := h1
  have := ar_o (d := cL c l) (l_own h') (by rw [argD_plc, getP_nil, h', Option.join_some, Option.bind_some]; exact (fzL (g := z)).fz l) rfl h
  exact this
theorem l_call {F : List O → RF} {os : List O} (h : Ar ρ fos ds b) (h2 : F (ds.map .dat) = .ok o os) (h3 : b = true ∨ cleanO o = true) : eCall F fos ρ = .ok (.tmp o) := by
  obtain ⟨us, e1, e2, e3⟩ := h
  rw [eCall_ap, e1, Rs.bnd_ok, callO_ap, e2]
  simp only [e3, h2, ofRF_ok]
  rcases h3 with rfl | h3
  · simp
  · simp [h3]
def xF (fs : List (Str × Int)) : List (Str × D) := fs.map fun f => (f.1, .int f.2)
theorem xF_clean : ∀ fs : List (Str × Int), cleans ((xF fs).map (·.2)) = true
  | [] => rfl
  | f :: fs => xF_clean fs
theorem l_callX {F : List O → RF} {os : List O} {c : Str} {fs : List (Str × Int)} (h : Ar ρ fos ds b) (h2 : F (ds.map .dat) = .exc c (xF fs) os) : eCall F fos ρ = .exc c (xF fs) := by
  obtain ⟨us, e1, e2, e3⟩ := h
  rw [eCall_ap, e1, Rs.bnd_ok, callO_ap, e2]
  simp only [h2, ofRF_exc, xF_clean, Bool.or_true, if_true]
end
end FL
namespace FL
open PySem L2
noncomputable def mulT (a b : Int) : Option Int := if okMul a b then some (a * b) else none
def divT (a b : Int) : Option Int := if 0 < b ∧ b.natAbs.log2 < 9000 then some (a / b) else none
def modT (a b : Int) : Option Int := if 0 < b then some (a % b) else none
noncomputable def rngT (lo hi : Int) : Option (List Int) := if okSm lo ∧ okSm hi then some (ilst lo hi) else none
def dnT (a : Int) : Option (List Int) := if -1 ≤ a ∧ a < 999999 then some ((List.range (a + 1).toNat).map fun (k : Nat) => a - (k : Int)) else none
def appT {α : Type} (l : List α) (x : α) : Option (List α) := if l.length < 16777216 then some (l ++ [x]) else none
def extT {α : Type} (l l2 : List α) : Option (List α) := if l.length + l2.length < 16777216 then some (l ++ l2) else none
def insT {α : Type} (l : List α) (x : α) : Option (List α) := if l.length < 16777216 then some (x :: l) else none
def setT {α : Type} (l : List α) (i : Int) (x : α) : Option (List α) := (ixN l.length i).bind fun j => if j < l.length then some (l.set j x) else none
def catT {α : Type} (a b : List α) : Option (List α) := if a.length + b.length ≤ 16777216 then some (a ++ b) else none
noncomputable def repT {α : Type} (l : List α) (k : Int) : Option (List α) := if okRep l.length k then some (List.replicate k.toNat l).flatten else none
def popT {α : Type} (l : List α) : Option (α × List α) := l[l.length - 1]?.map fun x => (x, l.dropLast)
def minT : List Int → Option Int
  | [] => none
  | n :: ns => some (minL (n :: ns))
def maxT : List Int → Option Int
  | [] => none
  | n :: ns => some (maxL (n :: ns))
def enumT {α : Type} (l : List α) : List (Int × α) := ((List.range l.length).zip l).map fun q => ((q.1 : Int), q.2)
def lcLT {α β : Type} (p : α → Option Bool) (e : α → Option β) : List α → Option (List β)
  | [] => some []
  | x :: l => (p x).bind fun b => if b = true then (e x).bind fun v => (lcLT p e l).map (v :: ·) else lcLT p e l
def lcT {α β : Type} (l : List α) (p : α → Option Bool) (e : α → Option β) : Option (List β) := (lcLT p e l).bind fun r => if r.length ≤ 16777216 then some r else none
def forT {α σ : Type} (tb : α → σ → Option σ) : List α → σ → Option σ
  | [], s => some s
  | x :: l, s => (tb x s).bind (forT tb l)
inductive Fw (σ β : Type) where
  | go (s : σ) | bk (s : σ) | rt (b : β)
def forR {α σ β : Type} (tb : α → σ → Option (Fw σ β)) : List α → σ → Option (Fw σ β)
  | [], s => some (.go s)
  | x :: l, s => (tb x s).bind fun w => match w with
    | .go s => forR tb l s
    | .bk s => some (.go s)
    | .rt b => some (.rt b)
inductive Ou (α : Type) where
  | ok (a : α) | exc (c : Str) (fs : List (Str × Int) := [])
def bindX {α β : Type} (t : Option (Ou β)) (kx : Str → List (Str × Int) → Option α) (k : β → Option α) : Option α := t.bind fun w => match w with
  | .ok v => k v
  | .exc c fs => kx c fs
def okO {β : Type} (t : Option (Ou β)) : Option β := t.bind fun w => match w with
  | .ok v => some v
  | .exc _ _ => none
theorem okO_h {β : Type} {t : Option (Ou β)} {v : β} (h : okO t = some v) : t = some (.ok v) := by
  cases t with
  | none => cases h
  | some w =>
    cases w with
    | ok u => cases h; rfl
    | exc c fs => cases h
def tryT {σ : Type} (t : Option (Ou σ)) (H : Str → List (Str × Int) → Option σ) : Option σ := t.bind fun w => match w with
  | .ok s => some s
  | .exc c fs => H c fs
def rfO {β : Type} (EO : β → O) (os : List O) : Ou β → RF
  | .ok v => .ok (EO v) os
  | .exc c fs => .exc c (xF fs) os
def Fw.el {σ β α : Type} (w : Fw σ β) (k : σ → Option α) (k2 : β → Option α) : Option α := match w with
  | .go s => k s
  | .bk s => k s
  | .rt b => k2 b
def bindR {σ β α : Type} (t : Option (Fw σ β)) (k : σ → Option α) (k2 : β → Option α) : Option α := t.bind fun w => w.el k k2
def whT {σ : Type} (g : σ → Option Bool) (tb : σ → Option σ) : Nat → σ → Option σ
  | 0, _ => none
  | n + 1, s => (g s).bind fun c => if c = true then (tb s).bind (whT g tb n) else some s
def whR {σ β : Type} (g : σ → Option Bool) (tb : σ → Option (Fw σ β)) : Nat → σ → Option (Fw σ β)
  | 0, _ => none
  | n + 1, s => (g s).bind fun c => if c = true then (tb s).bind (fun w => match w with
    | .go s => whR g tb n s
    | .bk s => some (.go s)
    | .rt b => some (.rt b)) else some (.go s)
theorem ob {α β : Type} {t : Option α} {k : α → Option β} {b : β} (h : t.bind k = some b) : ∃ a, t = some a ∧ k a = some b := by
  cases t with
  | none => cases h
  | some a => exact ⟨a, rfl, h⟩
theorem mul_f {a b v : Int} (h : mulT a b = some v) : dMul (.int a) (.int b) = .ok (.dat (.int v)) := by
  unfold mulT at h
  split at h
  · next z => cases h; rw [dMul_int, if_pos z]
  · cases h
theorem div_f {a b v : Int} (h : divT a b = some v) : dDiv (.int a) (.int b) = .ok (.dat (.int v)) := by
  unfold divT at h
  split at h
  · next z => cases h; exact if_pos z
  · cases h
theorem mod_f {a b v : Int} (h : modT a b = some v) : dMod (.int a) (.int b) = .ok (.dat (.int v)) := by
  unfold modT at h
  split at h
  · next z => cases h; exact if_pos z
  · cases h
theorem div_l (a b : Int) (h : 0 < b ∧ b.natAbs.log2 < 9000) : dDiv (.int a) (.int b) = .ok (.dat (.int (a / b))) := if_pos h
theorem mod_l (a b : Int) (h : 0 < b) : dMod (.int a) (.int b) = .ok (.dat (.int (a % b))) := if_pos h
theorem pow_l (a b c : Int) (h : 0 ≤ b ∧ b ≤ 1000000 ∧ a.natAbs < 2 ^ 64) (e : a ^ b.toNat = c) : dPow (.int a) (.int b) = .ok (.dat (.int c)) := by rw [← e]; exact if_pos h
theorem cat_L {α : Type} {c : α → D} {a b v : List α} (h : catT a b = some v) : dAdd (cL c a) (cL c b) = .ok (hL (hD c) v) := by
  unfold catT at h
  split at h
  · next z =>
    cases h
    show dAdd (.lst (a.map c)) (.lst (b.map c)) = _
    rw [dAdd_lst, if_pos (szl (by simpa using z)), ← List.map_append, List.map_map]; rfl
  · cases h
theorem cat_T {α : Type} {c : α → D} {a b v : List α} (h : catT a b = some v) : dAdd (cT c a) (cT c b) = .ok (.dat (cT c v)) := by
  unfold catT at h
  split at h
  · next z =>
    cases h
    show dAdd (.tup (a.map c)) (.tup (b.map c)) = _
    rw [dAdd_tup, if_pos (szl (by simpa using z)), ← List.map_append]; rfl
  · cases h
theorem rep_L {α : Type} {c : α → D} {a v : List α} {k : Int} (h : repT a k = some v) : dMul (cL c a) (.int k) = .ok (hL (hD c) v) := by
  unfold repT at h
  split at h
  · next z =>
    cases h
    show dMul (.lst (a.map c)) (.int k) = _
    have z' : okRep (a.map c).length k := by rw [List.length_map]; exact z
    have e : (List.replicate k.toNat (a.map c)).flatten.map O.dat = ((List.replicate k.toNat a).flatten).map (hD c) := by
      generalize k.toNat = n
      induction n with
      | zero => rfl
      | succ n ih => rw [List.replicate_succ, List.replicate_succ, List.flatten_cons, List.flatten_cons, List.map_append, List.map_append, ih, List.map_map]; rfl
    rw [dMul_lst, if_pos z', e]; rfl
  · cases h
theorem sum_L {l : List Int} : dSum2 [cL D.int l] = .ok (.dat (.int l.sum)) := by
  show (match intsOf (l.map D.int) with
    | some ns => Rs.ok (O.dat (.int ns.sum))
    | none => .bad) = _
  rw [intsOf_map]
theorem sum_T {l : List Int} : dSum2 [cT D.int l] = .ok (.dat (.int l.sum)) := by
  show (match intsOf (l.map D.int) with
    | some ns => Rs.ok (O.dat (.int ns.sum))
    | none => .bad) = _
  rw [intsOf_map]
theorem lst_nil {α : Type} {hh : α → O} : dLst [] = .ok (hL hh []) := if_pos (Nat.zero_le _)
theorem all_L {l : List Bool} : dAll [cL D.bl l] = .ok (.dat (.bl (l.all id))) := by
  show (match blsOf (l.map D.bl) with
    | some ns => Rs.ok (O.dat (.bl (ns.all id)))
    | none => .bad) = _
  rw [blsOf_map]
theorem any_L {l : List Bool} : dAny [cL D.bl l] = .ok (.dat (.bl (l.any id))) := by
  show (match blsOf (l.map D.bl) with
    | some ns => Rs.ok (O.dat (.bl (ns.any id)))
    | none => .bad) = _
  rw [blsOf_map]
theorem min_L {l : List Int} {v : Int} (h : minT l = some v) : dMin2 [cL D.int l] = .ok (.dat (.int v)) := by
  cases l with
  | nil => cases h
  | cons n ns =>
    cases h
    show (match (lOf (.lst ((n :: ns).map D.int))).bind intsOf with
      | some (n :: ns) => Rs.ok (O.dat (.int (minL (n :: ns))))
      | _ => _) = _
    have e : (lOf (.lst ((n :: ns).map D.int))).bind intsOf = some (n :: ns) := intsOf_map (n :: ns)
    rw [e]
theorem max_L {l : List Int} {v : Int} (h : maxT l = some v) : dMax2 [cL D.int l] = .ok (.dat (.int v)) := by
  cases l with
  | nil => cases h
  | cons n ns =>
    cases h
    show (match (lOf (.lst ((n :: ns).map D.int))).bind intsOf with
      | some (n :: ns) => Rs.ok (O.dat (.int (maxL (n :: ns))))
      | _ => _) = _
    have e : (lOf (.lst ((n :: ns).map D.int))).bind intsOf = some (n :: ns) := intsOf_map (n :: ns)
    rw [e]
theorem list_L {α : Type} {c : α → D} {l : List α} : dList [cL c l] = .ok (hL (hD c) l) := by
  show Rs.ok (O.node .lst ((l.map c).map .dat)) = .ok (.node .lst (l.map (hD c)))
  rw [List.map_map]; rfl
theorem list_T {α : Type} {c : α → D} {l : List α} : dList [cT c l] = .ok (hL (hD c) l) := by
  show Rs.ok (O.node .lst ((l.map c).map .dat)) = .ok (.node .lst (l.map (hD c)))
  rw [List.map_map]; rfl
theorem list_S {l : List Int} : dList [cS l] = .ok (hL (hD D.int) l) := by
  show Rs.ok (O.node .lst ((l.map D.int).map .dat)) = .ok (.node .lst (l.map (hD D.int)))
  rw [List.map_map]; rfl
section
variable {ρ ρ1 : FL.Env} {fe fb : FE} {fa : FA}
theorem i_L {α : Type} {c : α → D} {l : List α} (h : dE fe ρ = .ok (cL c l)) : iSeq (dE fe) ρ = .ok (l.map c) := by rw [iSeq_ap, h]; rfl
theorem i_T {α : Type} {c : α → D} {l : List α} (h : dE fe ρ = .ok (cT c l)) : iSeq (dE fe) ρ = .ok (l.map c) := by rw [iSeq_ap, h]; rfl
theorem i_S {l : List Int} (h : dE fe ρ = .ok (cS l)) : iSeq (dE fe) ρ = .ok (l.map .int) := by rw [iSeq_ap, h]; rfl
theorem ir_L {α : Type} {c : α → D} {l : List α} (h : rdE fe ρ = .ok (cL c l)) : iSeq (rdE fe) ρ = .ok (l.map c) := by rw [iSeq_ap, h]; rfl
theorem ir_T {α : Type} {c : α → D} {l : List α} (h : rdE fe ρ = .ok (cT c l)) : iSeq (rdE fe) ρ = .ok (l.map c) := by rw [iSeq_ap, h]; rfl
theorem ir_S {l : List Int} (h : rdE fe ρ = .ok (cS l)) : iSeq (rdE fe) ρ = .ok (l.map .int) := by rw [iSeq_ap, h]; rfl
theorem sm_f {i : Int} (h : okSm i) : smallR i = true := decide_eq_true h
theorem i_rng1 {j : Int} {l : List Int} (h : rdE fe ρ = .ok (.int j)) (hr : rngT 0 j = some l) : iRng (rCons fe aNil) ρ = .ok (l.map .int) := by
  rw [iRng_ap, r_cons h a_nil, Rs.bnd_ok]
  unfold rngT at hr
  split at hr
  · next z =>
    cases hr
    show toRs (if smallR j = true then some (rangeD 0 j) else none) = _
    rw [if_pos (sm_f z.2), rangeD_ilst]; rfl
  · cases hr
theorem i_rng2 {i j : Int} {l : List Int} (h1 : rdE fe ρ = .ok (.int i)) (h2 : rdE fb ρ = .ok (.int j)) (hr : rngT i j = some l) : iRng (rCons fe (rCons fb aNil)) ρ = .ok (l.map .int) := by
  rw [iRng_ap, r_cons h1 (r_cons h2 a_nil), Rs.bnd_ok]
  unfold rngT at hr
  split at hr
  · next z =>
    cases hr
    show toRs (if (smallR i && smallR j) = true then some (rangeD i j) else none) = _
    rw [if_pos (by rw [sm_f z.1, sm_f z.2]; rfl), rangeD_ilst]; rfl
  · cases hr
theorem fits' {i : Int} (h : -1000000000 ≤ i ∧ i < 1000000000) : Builtin.Range.rangeFitsLong i = true := by
  unfold Builtin.Range.rangeFitsLong
  rw [Bool.and_eq_true, decide_eq_true_eq, decide_eq_true_eq]
  omega
theorem size_dn {a : Int} (h : -1 ≤ a) : Builtin.Range.rangeSize a (-1) (-1) = a + 1 := by
  unfold Builtin.Range.rangeSize
  rw [if_neg (by omega)]
  by_cases h : a > -1
  · rw [if_pos h]
    have : - (-1 : Int) = 1 := rfl
    rw [this, Int.ediv_one]
    omega
  · rw [if_neg h]
    omega
theorem i_dn {a : Int} {fc : FE} {l : List Int} (h1 : rdE fe ρ = .ok (.int a)) (h2 : rdE fb ρ = .ok (.int (-1))) (h3 : rdE fc ρ = .ok (.int (-1))) (hr : dnT a = some l) : iRng (rCons fe (rCons fb (rCons fc aNil))) ρ = .ok (l.map .int) := by
  rw [iRng_ap, r_cons h1 (r_cons h2 (r_cons h3 a_nil)), Rs.bnd_ok]
  unfold dnT at hr
  split at hr
  · next z =>
    cases hr
    have hs : Builtin.Range.small a (-1) (-1) = true := by
      unfold Builtin.Range.small
      rw [size_dn z.1, fits' (by omega), fits' (by omega), fits' (by omega)]
      simp only [Bool.true_and, Bool.or_eq_true]
      right
      rw [if_neg (by omega)]
      exact fits' (by omega)
    have hc : (-1 : Int) ≠ 0 ∧ (-1 : Int).natAbs < 1073741824 ∧ Builtin.Range.small a (-1) (-1) = true ∧ 0 ≤ Builtin.Range.rangeSize a (-1) (-1) := ⟨by omega, by decide, hs, by rw [size_dn z.1]; omega⟩
    show toRs (if (-1 : Int) ≠ 0 ∧ (-1 : Int).natAbs < 1073741824 ∧ Builtin.Range.small a (-1) (-1) = true ∧ 0 ≤ Builtin.Range.rangeSize a (-1) (-1) then some (rangeC a (-1) (Builtin.Range.rangeSize a (-1) (-1)).toNat) else none) = _
    rw [if_pos hc, size_dn z.1, toRs_some]
    unfold rangeC
    rw [List.map_map]
    congr 1
    refine List.map_congr_left fun k _ => ?_
    have e : a + (k : Int) * (-1) = a - (k : Int) := by omega
    show D.int (a + (k : Int) * (-1)) = D.int (a - (k : Int))
    rw [e]
  · cases hr
theorem enum_map {α : Type} (c : α → D) (l : List α) : enumD (l.map c) = (enumT l).map (cP D.int c) := by
  unfold enumD enumT
  rw [List.length_map, List.zip_map_right, List.map_map, List.map_map]
  rfl
theorem i_enL {α : Type} {c : α → D} {l : List α} (h : dE fe ρ = .ok (cL c l)) : iEnA (aCons fe aNil) ρ = .ok ((enumT l).map (cP D.int c)) := by
  rw [iEnA_ap, a_cons h a_nil, Rs.bnd_ok]
  show toRs (some (enumD (l.map c))) = _
  rw [enum_map]; rfl
theorem i_enT {α : Type} {c : α → D} {l : List α} (h : dE fe ρ = .ok (cT c l)) : iEnA (aCons fe aNil) ρ = .ok ((enumT l).map (cP D.int c)) := by
  rw [iEnA_ap, a_cons h a_nil, Rs.bnd_ok]
  show toRs (some (enumD (l.map c))) = _
  rw [enum_map]; rfl
theorem zip_mapP {α β : Type} (c : α → D) (d : β → D) (l : List α) (l2 : List β) : zipD (l.map c) (l2.map d) = (l.zip l2).map (cP c d) := by
  unfold zipD
  rw [List.zip_map, List.map_map]; rfl
theorem i_zipLL {α β : Type} {c : α → D} {d : β → D} {l : List α} {l2 : List β} (h : dE fe ρ = .ok (cL c l)) (h2 : dE fb ρ = .ok (cL d l2)) : iZpA (aCons fe (aCons fb aNil)) ρ = .ok ((l.zip l2).map (cP c d)) := by
  rw [iZpA_ap, a_cons h (a_cons h2 a_nil), Rs.bnd_ok]
  show toRs (some (zipD (l.map c) (l2.map d))) = _
  rw [zip_mapP]; rfl
theorem i_zipTT {α β : Type} {c : α → D} {d : β → D} {l : List α} {l2 : List β} (h : dE fe ρ = .ok (cT c l)) (h2 : dE fb ρ = .ok (cT d l2)) : iZpA (aCons fe (aCons fb aNil)) ρ = .ok ((l.zip l2).map (cP c d)) := by
  rw [iZpA_ap, a_cons h (a_cons h2 a_nil), Rs.bnd_ok]
  show toRs (some (zipD (l.map c) (l2.map d))) = _
  rw [zip_mapP]; rfl
theorem i_zipTL {α β : Type} {c : α → D} {d : β → D} {l : List α} {l2 : List β} (h : dE fe ρ = .ok (cT c l)) (h2 : dE fb ρ = .ok (cL d l2)) : iZpA (aCons fe (aCons fb aNil)) ρ = .ok ((l.zip l2).map (cP c d)) := by
  rw [iZpA_ap, a_cons h (a_cons h2 a_nil), Rs.bnd_ok]
  show toRs (some (zipD (l.map c) (l2.map d))) = _
  rw [zip_mapP]; rfl
theorem i_zipLT {α β : Type} {c : α → D} {d : β → D} {l : List α} {l2 : List β} (h : dE fe ρ = .ok (cL c l)) (h2 : dE fb ρ = .ok (cT d l2)) : iZpA (aCons fe (aCons fb aNil)) ρ = .ok ((l.zip l2).map (cP c d)) := by
  rw [iZpA_ap, a_cons h (a_cons h2 a_nil), Rs.bnd_ok]
  show toRs (some (zipD (l.map c) (l2.map d))) = _
  rw [zip_mapP]; rfl
theorem i_revL {α : Type} {c : α → D} {l : List α} (h : dE fe ρ = .ok (cL c l)) : iRevD (dE fe) ρ = .ok (l.reverse.map c) := by
  rw [iRevD_ap, h, List.map_reverse]; rfl
theorem i_revT {α : Type} {c : α → D} {l : List α} (h : dE fe ρ = .ok (cT c l)) : iRevD (dE fe) ρ = .ok (l.reverse.map c) := by
  rw [iRevD_ap, h, List.map_reverse]; rfl
theorem compL_T {α β : Type} {b : FG} {g : FB} {q : α → D} {h : β → O} {p : α → Option Bool} {e : α → Option β} : ∀ {l : List α} {r : List β}, (∀ x ∈ l, ∀ pv, p x = some pv → ∃ ρ1, b (q x) ρ = some ρ1 ∧ g ρ1 = .ok pv ∧ (pv = true → ∀ v, e x = some v → fe ρ1 = .ok (.tmp (h v)))) →
    lcLT p e l = some r → compL b g fe ρ (l.map q) = some (r.map h)
  | [], r, _, hr => by cases hr; rfl
  | x :: l, r, H, hr => by
    obtain ⟨pv, hp, hr⟩ := ob hr
    obtain ⟨ρ1, h1, h2, h3⟩ := H x List.mem_cons_self pv hp
    have H2 := fun y hy => H y (List.mem_cons_of_mem x hy)
    have e0 : compL b g fe ρ (q x :: l.map q) = (match b (q x) ρ with
      | none => none
      | some ρ1 => match g ρ1 with
        | .ok true => (match fe ρ1 with
          | .ok (.tmp o) => (compL b g fe ρ (l.map q)).map fun os => o :: os
          | _ => none)
        | .ok false => compL b g fe ρ (l.map q)
        | _ => none) := rfl
    rw [List.map_cons, e0, h1]
    dsimp only
    rw [h2]
    cases pv with
    | true =>
      rw [if_pos rfl] at hr
      obtain ⟨v, hv, hr⟩ := ob hr
      obtain ⟨r2, hr2, rfl⟩ := Option.map_eq_some_iff.mp hr
      dsimp only
      rw [h3 rfl v hv]
      dsimp only
      rw [compL_T H2 hr2]
      rfl
    | false =>
      rw [if_neg (by decide)] at hr
      exact compL_T H2 hr
theorem ev_lc {α β : Type} {fi : FI} {b : FG} {g : FB} {vs : List Nat} {q : α → D} {h : β → O} {l : List α} {p : α → Option Bool} {e : α → Option β} {r : List β} (hi : fi ρ = .ok (l.map q))
    (H : ∀ x ∈ l, ∀ pv, p x = some pv → ∃ ρ1, b (q x) (wipeE ρ vs) = some ρ1 ∧ g ρ1 = .ok pv ∧ (pv = true → ∀ v, e x = some v → fe ρ1 = .ok (.tmp (h v)))) (hr : lcT l p e = some r) : eLc fi b g fe vs ρ = .ok (.tmp (hL h r)) := by
  obtain ⟨r2, h2, h3⟩ := ob hr
  split at h3
  · next z =>
    cases h3
    rw [eLc_ap, hi, Rs.bnd_ok, compL_T H h2, lcO_some, if_pos (szl (by simpa using z))]
    rfl
  · cases h3
end
def So {α : Type} (Q : α → RS → Prop) (t : Option α) (r : RS) : Prop := ∀ a, t = some a → Q a r
section
variable {α β σ τ : Type} {Q : α → RS → Prop} {t t1 t2 : Option α} {f g A B rest : FS} {ρ ρ1 : FL.Env} {fe fa fb : FE} {fos : FOs} {i : Nat} {d : D} {o : O} {r : RS} {kp : List Nat}
theorem so_pure {a : α} (h : Q a r) : So Q (some a) r := fun _ e => by cases e; exact h
theorem so_none : So Q none r := fun _ e => by cases e
theorem so_bind {t : Option β} {k : β → Option α} (h : ∀ v, t = some v → So Q (k v) r) : So Q (t.bind k) r := fun a e => by
  obtain ⟨v, h1, h2⟩ := ob e
  exact h v h1 a h2
theorem so_st (h : f ρ = .ok .nx ρ1) (h2 : So Q t (sSeq rest g ρ1)) : So Q t (sSeq (sSeq f rest) g ρ) := by
  rw [sSeq_ap, sSeq_ap, h]; exact h2
theorem so_end (h : So Q t (g ρ)) : So Q t (sSeq sNx g ρ) := h
theorem so_top (h : So Q t (sSeq f sNx ρ)) : So Q t (f ρ) := by
  rw [sSeq_ap] at h
  have e : (f ρ).thn sNx = f ρ := by
    cases f ρ with
    | ok w ρ => cases w <;> rfl
    | exc _ _ _ => rfl
    | bad => rfl
  rw [e] at h; exact h
theorem so_stop (h : f ρ = r) (hr : r.thn rest = r) (hr2 : r.thn g = r) (hq : So Q t r) : So Q t (sSeq (sSeq f rest) g ρ) := by
  rw [sSeq_ap, sSeq_ap, h, hr, hr2]; exact hq
theorem so_rt {ρ' : FL.Env} (h : f ρ = .ok (.rt o) ρ') (hq : So Q t (.ok (.rt o) ρ')) : So Q t (sSeq (sSeq f rest) g ρ) := so_stop h rfl rfl hq
theorem so_if {c : Bool} {b : FB} (hb : b ρ = .ok c) (h1 : c = true → So Q t1 (sSeq A (sSeq rest g) ρ)) (h2 : c = false → So Q t2 (sSeq B (sSeq rest g) ρ)) : So Q (if c = true then t1 else t2) (sSeq (sSeq (sIf b A B) rest) g ρ) := by
  have e : sSeq (sSeq (sIf b A B) rest) g ρ = sSeq (if c = true then A else B) (sSeq rest g) ρ := by
    show ((sIf b A B ρ).thn rest).thn g = _
    rw [sIf_ap, hb]
    show (((if c = true then A else B) ρ).thn rest).thn g = ((if c = true then A else B) ρ).thn (sSeq rest g)
    cases (if c = true then A else B) ρ with
    | ok w ρ => cases w <;> rfl
    | exc _ _ _ => rfl
    | bad => rfl
  rw [e]
  cases c with
  | true => exact h1 rfl
  | false => exact h2 rfl
def Jn (E : σ → FL.Env → Prop) (s : σ) (r : RS) : Prop := ∃ ρ, r = .ok .nx ρ ∧ E s ρ
theorem so_join {c : Bool} {b : FB} {E : σ → FL.Env → Prop} {u1 u2 : Option σ} {k : σ → Option α} (hb : b ρ = .ok c) (h1 : c = true → So (Jn E) u1 (sSeq A sNx ρ)) (h2 : c = false → So (Jn E) u2 (sSeq B sNx ρ)) (hk : ∀ s ρ', E s ρ' → So Q (k s) (sSeq rest g ρ')) :
    So Q ((if c = true then u1 else u2).bind k) (sSeq (sSeq (sIf b A B) rest) g ρ) := so_bind fun s hs => by
  have key : ∀ {F : FS} {u : Option σ}, So (Jn E) u (sSeq F sNx ρ) → u = some s → ∃ ρ', F ρ = .ok .nx ρ' ∧ E s ρ' := fun {F u} h e => by
    obtain ⟨ρ', e1, e2⟩ := so_top h s e
    exact ⟨ρ', e1, e2⟩
  have e : sIf b A B ρ = (if c = true then A else B) ρ := by rw [sIf_ap, hb]; rfl
  cases c with
  | true =>
    obtain ⟨ρ', e1, e2⟩ := key (h1 rfl) hs
    exact so_st (e.trans e1) (hk s ρ' e2)
  | false =>
    obtain ⟨ρ', e1, e2⟩ := key (h2 rfl) hs
    exact so_st (e.trans e1) (hk s ρ' e2)
theorem so_for {q : β → D} {b : FG} {fi : FI} {E : σ → FL.Env → Prop} {tb : β → σ → Option σ} {l : List β} {s0 : σ} {k : σ → Option α} (hi : fi ρ = .ok (l.map q))
    (hb : ∀ x s ρ, E s ρ → ∃ ρ1, b (q x) ρ = some ρ1 ∧ So (fun s r => Goes r (E s)) (tb x s) (sSeq f sNx ρ1)) (h0 : E s0 ρ) (hk : ∀ s ρ', E s ρ' → So Q (k s) (sSeq rest g ρ')) : So Q ((forT tb l s0).bind k) (sSeq (sSeq (sFor fi b f) rest) g ρ) := so_bind fun s hs => by
  have key : ∀ (l : List β) (s0 : σ) (ρ : FL.Env), E s0 ρ → forT tb l s0 = some s → ∃ ρ', forL b f (l.map q) ρ = .ok .nx ρ' ∧ E s ρ' := fun l => by
    induction l with
    | nil => intro s0 ρ h e; cases e; exact ⟨ρ, rfl, h⟩
    | cons x l ih =>
      intro s0 ρ h e
      obtain ⟨s1, e1, e2⟩ := ob e
      obtain ⟨ρ1, h1, h2⟩ := hb x s0 ρ h
      obtain ⟨ρ2, h3, h4⟩ := so_top h2 s1 e1
      obtain ⟨ρ', h5, h6⟩ := ih s1 ρ2 h4 e2
      refine ⟨ρ', ?_, h6⟩
      rw [List.map_cons, forL_cons, h1]
      dsimp only
      rcases h3 with h3 | h3 <;> rw [h3] <;> exact h5
  obtain ⟨ρ', h1, h2⟩ := key l s0 ρ h0 hs
  exact so_st (by rw [sFor_ap, hi]; exact h1) (hk s ρ' h2)
theorem _root_.FL.Stops.thn {r : RS} (h : Stops r) (k : FS) : r.thn k = r := by
  rcases h with ⟨o, ρ, rfl⟩ | ⟨c, fs, ρ, rfl⟩ <;> rfl
theorem so_bindX {t : Option (Ou β)} {kx : Str → List (Str × Int) → Option α} {k : β → Option α} (h : ∀ v, t = some (.ok v) → So Q (k v) r) (hx : ∀ c fs, t = some (.exc c fs) → So Q (kx c fs) r) : So Q (bindX t kx k) r := fun a e => by
  obtain ⟨w, h1, h2⟩ := ob e
  cases w with
  | ok v => exact h v h1 a h2
  | exc c fs => exact hx c fs h1 a h2
def TrQ (E : σ → FL.Env → Prop) (E0 : FL.Env → Prop) : Ou σ → RS → Prop
  | .ok s, r => ∃ ρ, r = .ok .nx ρ ∧ E s ρ
  | .exc c fs, r => ∃ ρ, r = .exc c (xF fs) ρ ∧ E0 ρ
theorem so_tryAs {E : σ → FL.Env → Prop} {E0 : FL.Env → Prop} {fb : FS} {fsu : Addr → Option Addr → Str → FS} {sub : Str → Option Bool} {tb : Option (Ou σ)} {H : Str → List (Str × Int) → Option σ} {k : σ → Option α} (hb : So (TrQ E E0) tb (sSeq fb sNx ρ))
    (hh : ∀ c fs ρ', E0 ρ' → ∀ s, H c fs = some s → sub c = some true ∧ ∃ ρ2, (∀ a dx, (dx = none ∨ fs.map (·.1) ≠ []) → dropS i (fsu a dx c (ρ'.set i (some (.dat (.exn a dx (fs.map (·.1)) (fs.map fun f => .int f.2)))))) = .ok .nx ρ2) ∧ E s ρ2)
    (hk : ∀ s ρ', E s ρ' → So Q (k s) (sSeq rest g ρ')) : So Q ((tryT tb H).bind k) (sSeq (sSeq (sTryAs sub i fb fsu) rest) g ρ) := so_bind fun s hs => by
  obtain ⟨w, h1, h2⟩ := ob hs
  have hb := so_top hb w h1
  cases w with
  | ok s' =>
    cases h2
    obtain ⟨ρ', e1, e2⟩ := hb
    exact so_st (by unfold sTryAs; rw [e1]) (hk s ρ' e2)
  | exc c fs =>
    obtain ⟨ρ', e1, e2⟩ := hb
    obtain ⟨g1, ρ2, g2, g3⟩ := hh c fs ρ' e2 s h2
    refine so_st (ρ1 := ρ2) ?_ (hk s ρ2 g3)
    unfold sTryAs
    rw [e1]
    simp only [g1]
    refine allA_eq fun a d => ?_
    have h1 : (xF fs).map (·.1) = fs.map (·.1) := by unfold xF; rw [List.map_map]; rfl
    have h2 : (xF fs).map (·.2) = fs.map fun f => D.int f.2 := by unfold xF; rw [List.map_map]; rfl
    rw [h1, h2]
    refine g2 a _ ?_
    cases fs with
    | nil => exact .inl rfl
    | cons f fs => exact .inr fun h => by cases h
theorem so_tryOnly {E : σ → FL.Env → Prop} {E0 : FL.Env → Prop} {fb fsu : FS} {sub : Str → Option Bool} {tb : Option (Ou σ)} {H : Str → List (Str × Int) → Option σ} {k : σ → Option α} (hb : So (TrQ E E0) tb (sSeq fb sNx ρ))
    (hh : ∀ c fs ρ', E0 ρ' → ∀ s, H c fs = some s → sub c = some true ∧ ∃ ρ2, fsu ρ' = .ok .nx ρ2 ∧ E s ρ2)
    (hk : ∀ s ρ', E s ρ' → So Q (k s) (sSeq rest g ρ')) : So Q ((tryT tb H).bind k) (sSeq (sSeq (sTryOnly sub fb fsu) rest) g ρ) := so_bind fun s hs => by
  obtain ⟨w, h1, h2⟩ := ob hs
  have hb := so_top hb w h1
  cases w with
  | ok s' =>
    cases h2
    obtain ⟨ρ', e1, e2⟩ := hb
    exact so_st (by unfold sTryOnly; rw [e1]) (hk s ρ' e2)
  | exc c fs =>
    obtain ⟨ρ', e1, e2⟩ := hb
    obtain ⟨g1, ρ2, g2, g3⟩ := hh c fs ρ' e2 s h2
    refine so_st (ρ1 := ρ2) ?_ (hk s ρ2 g3)
    unfold sTryOnly
    rw [e1]
    simp only [g1, g2]
    rfl
def Bo (E : σ → FL.Env → Prop) (R : β → RS → Prop) : Fw σ β → RS → Prop
  | .go s, r => Goes r (E s)
  | .bk s, r => ∃ ρ, r = .ok .bk ρ ∧ E s ρ
  | .rt b, r => R b r
theorem so_forR {γ : Type} {q : β → D} {b : FG} {fi : FI} {E : σ → FL.Env → Prop} {R : γ → RS → Prop} {tb : β → σ → Option (Fw σ γ)} {l : List β} {s0 : σ} {k : σ → Option α} {k2 : γ → Option α} (hi : fi ρ = .ok (l.map q))
    (hb : ∀ x s ρ, E s ρ → ∃ ρ1, b (q x) ρ = some ρ1 ∧ So (Bo E R) (tb x s) (sSeq f sNx ρ1)) (h0 : E s0 ρ) (hk : ∀ s ρ', E s ρ' → So Q (k s) (sSeq rest g ρ')) (hst : ∀ v r, R v r → Stops r) (hr : ∀ v r, R v r → So Q (k2 v) r) :
    So Q (bindR (forR tb l s0) k k2) (sSeq (sSeq (sFor fi b f) rest) g ρ) := so_bind fun w hw => by
  have key : ∀ (l : List β) (s0 : σ) (ρ : FL.Env), E s0 ρ → forR tb l s0 = some w → (∃ s ρ', w = .go s ∧ forL b f (l.map q) ρ = .ok .nx ρ' ∧ E s ρ') ∨ ∃ v, w = .rt v ∧ R v (forL b f (l.map q) ρ) := fun l => by
    induction l with
    | nil => intro s0 ρ h e; cases e; exact .inl ⟨s0, ρ, rfl, rfl, h⟩
    | cons x l ih =>
      intro s0 ρ h e
      obtain ⟨w1, e1, e2⟩ := ob e
      obtain ⟨ρ1, h1, h2⟩ := hb x s0 ρ h
      have h3 := so_top h2 w1 e1
      have e0 : forL b f ((x :: l).map q) ρ = (f ρ1).turn (forL b f (l.map q)) := by
        rw [List.map_cons, forL_cons, h1]
      rw [e0]
      cases w1 with
      | go s =>
        obtain ⟨ρ2, h4, h5⟩ := h3
        have z := ih s ρ2 h5 e2
        rcases h4 with h4 | h4 <;> rw [h4] <;> exact z
      | bk s =>
        obtain ⟨ρ2, h4, h5⟩ := h3
        cases e2
        rw [h4]
        exact .inl ⟨s, ρ2, rfl, rfl, h5⟩
      | rt v =>
        cases e2
        have h3 : R v (f ρ1) := h3
        rw [(hst v _ h3).turn]
        exact .inr ⟨v, rfl, h3⟩
  rcases key l s0 ρ h0 hw with ⟨s, ρ', rfl, h1, h2⟩ | ⟨v, rfl, h2⟩
  · exact so_st (by rw [sFor_ap, hi]; exact h1) (hk s ρ' h2)
  · have st := hst v _ h2
    exact so_stop (r := forL b f (l.map q) ρ) (by rw [sFor_ap, hi]; rfl) (st.thn _) (st.thn _) (hr v _ h2)
theorem so_wh {b : FB} {E : σ → FL.Env → Prop} {gt : σ → Option Bool} {tb : σ → Option σ} {n : Nat} {s0 : σ} {k : σ → Option α} (hg : ∀ s ρ, E s ρ → ∀ c, gt s = some c → b ρ = .ok c)
    (hb : ∀ s ρ, E s ρ → gt s = some true → So (fun s r => Goes r (E s)) (tb s) (sSeq f sNx ρ)) (h0 : E s0 ρ) (hk : ∀ s ρ', E s ρ' → So Q (k s) (sSeq rest g ρ')) : So Q ((whT gt tb n s0).bind k) (sSeq (sSeq (sWhile b f) rest) g ρ) := so_bind fun s hs => by
  have key : ∀ (n : Nat) (s0 : σ) (ρ : FL.Env), E s0 ρ → whT gt tb n s0 = some s → ∃ ρ', whileN n b f ρ = .ok .nx ρ' ∧ E s ρ' := fun n => by
    induction n with
    | zero => intro s0 ρ h e; cases e
    | succ n ih =>
      intro s0 ρ h e
      obtain ⟨c, e1, e2⟩ := ob e
      have h1 := hg s0 ρ h c e1
      unfold whileN
      rw [h1]
      cases c with
      | false => cases e2; exact ⟨ρ, rfl, h⟩
      | true =>
        obtain ⟨s1, e3, e4⟩ := ob e2
        obtain ⟨ρ2, h3, h4⟩ := so_top (hb s0 ρ h e1) s1 e3
        obtain ⟨ρ', h5, h6⟩ := ih s1 ρ2 h4 e4
        refine ⟨ρ', ?_, h6⟩
        simp only [Rs.thn_ok, if_true]
        rcases h3 with h3 | h3 <;> rw [h3] <;> exact h5
  obtain ⟨ρ', h1, h2⟩ := key n s0 ρ h0 hs
  exact so_st (sWhile_eq h1 (by intro z; cases z)) (hk s ρ' h2)
theorem so_whR {γ : Type} {b : FB} {E : σ → FL.Env → Prop} {R : γ → RS → Prop} {gt : σ → Option Bool} {tb : σ → Option (Fw σ γ)} {n : Nat} {s0 : σ} {k : σ → Option α} {k2 : γ → Option α} (hg : ∀ s ρ, E s ρ → ∀ c, gt s = some c → b ρ = .ok c)
    (hb : ∀ s ρ, E s ρ → gt s = some true → So (Bo E R) (tb s) (sSeq f sNx ρ)) (h0 : E s0 ρ) (hk : ∀ s ρ', E s ρ' → So Q (k s) (sSeq rest g ρ')) (hst : ∀ v r, R v r → Stops r) (hr : ∀ v r, R v r → So Q (k2 v) r) :
    So Q (bindR (whR gt tb n s0) k k2) (sSeq (sSeq (sWhile b f) rest) g ρ) := so_bind fun w hw => by
  have key : ∀ (n : Nat) (s0 : σ) (ρ : FL.Env), E s0 ρ → whR gt tb n s0 = some w → (∃ s ρ', w = .go s ∧ whileN n b f ρ = .ok .nx ρ' ∧ E s ρ') ∨ ∃ v, w = .rt v ∧ R v (whileN n b f ρ) := fun n => by
    induction n with
    | zero => intro s0 ρ h e; cases e
    | succ n ih =>
      intro s0 ρ h e
      obtain ⟨c, e1, e2⟩ := ob e
      have h1 := hg s0 ρ h c e1
      unfold whileN
      rw [h1]
      cases c with
      | false => cases e2; exact .inl ⟨s0, ρ, rfl, rfl, h⟩
      | true =>
        obtain ⟨w1, e3, e4⟩ := ob e2
        have h3 := so_top (hb s0 ρ h e1) w1 e3
        simp only [Rs.thn_ok, if_true]
        cases w1 with
        | go s =>
          obtain ⟨ρ2, h4, h5⟩ := h3
          have z := ih s ρ2 h5 e4
          rcases h4 with h4 | h4 <;> rw [h4] <;> exact z
        | bk s =>
          obtain ⟨ρ2, h4, h5⟩ := h3
          cases e4
          rw [h4]
          exact .inl ⟨s, ρ2, rfl, rfl, h5⟩
        | rt v =>
          cases e4
          have h3 : R v (f ρ) := h3
          rw [(hst v _ h3).turn]
          exact .inr ⟨v, rfl, h3⟩
  rcases key n s0 ρ h0 hw with ⟨s, ρ', rfl, h1, h2⟩ | ⟨v, rfl, h2⟩
  · exact so_st (sWhile_eq h1 (by intro z; cases z)) (hk s ρ' h2)
  · have st := hst v _ h2
    exact so_stop (r := whileN n b f ρ) (sWhile_eq rfl (by rcases st with ⟨o, ρ, e⟩ | ⟨c, fs, ρ, e⟩ <;> rw [e] <;> intro z <;> cases z)) (st.thn _) (st.thn _) (hr v _ h2)
theorem st_set (h : fe ρ = .ok (.tmp (.dat d))) : sSet i (lft fe) ρ = .ok .nx (ρ.set i (some (.dat d))) := by rw [sSet_ap, lft_ap, h]; rfl
theorem st_setn {γ : Type} {hh : γ → O} {c : γ → D} [z : Fz hh c] {v : γ} (h : fe ρ = .ok (.tmp (hh v))) : sSet i (lft fe) ρ = .ok .nx (ρ.set i (some (.dat (c v)))) := by
  rw [sSet_ap, lft_ap, h]
  simp only [RX.thn_ok, toDat_t, z.fz, Option.map_some, toRS_some]
theorem st_own (h : fe ρ = .ok (.tmp o)) : sOwn i (lft fe) ρ = .ok .nx (ρ.set i (some o)) := by rw [sOwn_ap, lft_ap, h]; rfl
theorem st_aug {q : D → D → Rs O} {x y : D} (hx : ρ[i]? = some (some (.dat x))) (hy : dE fe ρ = .ok y) (h : q x y = .ok o) : muAug q i fe ρ = .ok .nx (ρ.set i (some o)) := by
  rw [muAug_ap, hx]
  simp only [hy, Rs.thn_ok, h]
theorem st_app {γ : Type} {hh : γ → O} {l l' : List γ} {x : γ} (hi : ρ[i]? = some (some (hL hh l))) (ha : fe ρ = .ok (.tmp (hh x))) (hv : appT l x = some l') : sDrop (xMut "list" muApp (eVar i) (oCons fe oNil)) ρ = .ok .nx (ρ.set i (some (hL hh l'))) := by
  unfold appT at hv
  split at hv
  · next z =>
    cases hv
    have hi' : ρ[i]? = some (some (.node .lst (l.map hh))) := hi
    have := s_append (fos := oCons fe oNil) (o := hh x) hi' (by rw [oCons_ap, ha]; rfl) (by rw [List.length_map]; exact z)
    rw [this]
    show _ = RS.ok Fl.nx (ρ.set i (some (.node .lst ((l ++ [x]).map hh))))
    rw [List.map_append]; rfl
  · cases hv
theorem st_mut {γ : Type} {hh : γ → O} {l l' : List γ} {M : Mu} {us args : List Opd} {as : List O} {res : O} (hi : ρ[i]? = some (some (hL hh l))) (ha : fos ρ = .ok us) (ht : tmps us = some as) (hM : M .lst (l.map hh) as = some (.lst, l'.map hh, res)) : sDrop (xMut "list" M (eVar i) fos) ρ = .ok .nx (ρ.set i (some (hL hh l'))) := by
  have hi' : ρ[i]? = some (some (.node .lst (l.map hh))) := hi
  rw [sDrop_ap]
  simp only [xMut_ap, eVar_ap, hi', getP_nil, Option.join_some, isT_lst, ha, ht, muRes_nil, hM]
  rfl
theorem st_ext {γ : Type} {hh : γ → O} {l l2 l' : List γ} (hi : ρ[i]? = some (some (hL hh l))) (ha : fe ρ = .ok (.tmp (hL hh l2))) (hv : extT l l2 = some l') : sDrop (xMut "list" muExt (eVar i) (oCons fe oNil)) ρ = .ok .nx (ρ.set i (some (hL hh l'))) := by
  unfold extT at hv
  split at hv
  · next z =>
    cases hv
    refine st_mut (us := [.tmp (hL hh l2)]) (args := []) (as := [hL hh l2]) (res := .dat .non) hi (by rw [oCons_ap, ha]; rfl) rfl ?_
    show muExt .lst (l.map hh) [.node .lst (l2.map hh)] = _
    rw [muExt_own (by simpa using z), List.map_append]
  · cases hv
theorem st_extd {γ : Type} {c : γ → D} {l l2 l' : List γ} (hi : ρ[i]? = some (some (hL (hD c) l))) (ha : fe ρ = .ok (.tmp (.dat (cL c l2)))) (hv : extT l l2 = some l') : sDrop (xMut "list" muExt (eVar i) (oCons fe oNil)) ρ = .ok .nx (ρ.set i (some (hL (hD c) l'))) := by
  unfold extT at hv
  split at hv
  · next z =>
    cases hv
    refine st_mut (us := [.tmp (.dat (cL c l2))]) (args := []) (as := [.dat (cL c l2)]) (res := .dat .non) hi (by rw [oCons_ap, ha]; rfl) rfl ?_
    show muExt .lst (l.map (hD c)) [.dat (.lst (l2.map c))] = _
    rw [muExt_dat (by simpa using z), List.map_append, List.map_map]; rfl
  · cases hv
theorem st_ins {γ : Type} {hh : γ → O} {l l' : List γ} {x : γ} (hi : ρ[i]? = some (some (hL hh l))) (hk : fb ρ = .ok (.tmp (.dat (.int 0)))) (ha : fe ρ = .ok (.tmp (hh x))) (hv : insT l x = some l') : sDrop (xMut "list" muIns (eVar i) (oCons fb (oCons fe oNil))) ρ = .ok .nx (ρ.set i (some (hL hh l'))) := by
  unfold insT at hv
  split at hv
  · next z =>
    cases hv
    refine st_mut (us := [.tmp (.dat (.int 0)), .tmp (hh x)]) (args := []) (as := [.dat (.int 0), hh x]) (res := .dat .non) hi (by rw [oCons_ap, hk, Rs.bnd_ok, oCons_ap, ha]; rfl) rfl ?_
    have hk : okI (0 : Int) := ⟨by omega, by omega⟩
    show (if (l.map hh).length < sizeLine ∧ (0 : Int) ≤ 0 ∧ okI 0 then some (Tag.lst, (l.map hh).take (0 : Int).toNat ++ [hh x] ++ (l.map hh).drop (0 : Int).toNat, O.dat .non) else none) = _
    rw [if_pos ⟨szl_lt (by rw [List.length_map]; exact z), Int.le_refl 0, hk⟩]
    rfl
  · cases hv
theorem st_rev {γ : Type} {hh : γ → O} {l : List γ} (hi : ρ[i]? = some (some (hL hh l))) : sDrop (xMut "list" muRev (eVar i) oNil) ρ = .ok .nx (ρ.set i (some (hL hh l.reverse))) := by
  refine st_mut (us := []) (args := []) (as := []) (res := .dat .non) hi rfl rfl ?_
  rw [muRev_ap, List.map_reverse]
theorem st_clr {γ : Type} {hh : γ → O} {l : List γ} (hi : ρ[i]? = some (some (hL hh l))) : sDrop (xMut "list" muClr (eVar i) oNil) ρ = .ok .nx (ρ.set i (some (hL hh []))) :=
  st_mut (us := []) (args := []) (as := []) (res := .dat .non) hi rfl rfl rfl
theorem st_sto {γ : Type} {hh : γ → O} {l l' : List γ} {x : γ} {k : Int} (hi : ρ[i]? = some (some (hL hh l))) (hk : dE fb ρ = .ok (.int k)) (ha : fe ρ = .ok (.tmp (hh x))) (hv : setT l k x = some l') : sSto muSet2 (lft fe) (eVar i) fb ρ = .ok .nx (ρ.set i (some (hL hh l'))) := by
  have hi' : ρ[i]? = some (some (.node .lst (l.map hh))) := hi
  obtain ⟨j, e1, e2⟩ := ob hv
  split at e2
  · next z =>
    cases e2
    rw [sSto_ap, lft_ap, ha]
    simp only [RX.thn_ok, toOwn_t, toRS_some, eVar_ap, hi', Rs.thn_ok, hk, muRes_nil]
    have e3 : muSet2 .lst (l.map hh) [.dat (.int k), hh x] = some (.lst, (l.set j x).map hh, .dat .non) := by
      show (match ixN (l.map hh).length k with
        | some j => if j < (l.map hh).length then some (Tag.lst, (l.map hh).set j (hh x), O.dat .non) else none
        | none => none) = _
      rw [List.length_map, e1]
      dsimp only
      rw [if_pos z, List.map_set]
    rw [e3]
    rfl
  · cases e2
theorem st_drop {v : Opd} (h : fe ρ = .ok v) : sDrop (lft fe) ρ = .ok .nx ρ := by rw [sDrop_ap, lft_ap, h]; rfl
theorem st_asg {b : FG} {ρ2 : FL.Env} (h : fe ρ = .ok (.tmp (.dat d))) (hb : b d ρ = some ρ2) : sAsg b (lft fe) ρ = .ok .nx ρ2 := by
  rw [sAsg_ap, lft_ap, h]
  simp only [RX.thn_ok, toDat_t, freeze_dat, Option.map_some, toRS_some, hb]
theorem st_asgn {γ : Type} {hh : γ → O} {c : γ → D} [z : Fz hh c] {v : γ} {b : FG} {ρ2 : FL.Env} (h : fe ρ = .ok (.tmp (hh v))) (hb : b (c v) ρ = some ρ2) : sAsg b (lft fe) ρ = .ok .nx ρ2 := by
  rw [sAsg_ap, lft_ap, h]
  simp only [RX.thn_ok, toDat_t, z.fz, Option.map_some, toRS_some, hb]
theorem st_ret (h : fe ρ = .ok (.tmp o)) : sRet kp (lft fe) ρ = .ok (.rt o) ρ := by rw [sRet_ap, lft_ap, h]; rfl
theorem st_reto {t : Tag} {l : List O} (h : ρ[i]? = some (some (.node t l))) (hk : i ∉ kp) : sRet kp (lft (eVar i)) ρ = .ok (.rt (.node t l)) (ρ.set i none) := by
  rw [sRet_ap, lft_ap, l_own h]
  simp only [RX.thn_ok, toRet_p]
  rw [if_pos ⟨trivial, hk⟩, h]
  rfl
theorem st_frz {γ : Type} {hh : γ → O} {c : γ → D} [z : Fz hh c] {v : List γ} {is : List Nat} (h : ρ[i]? = some (some (hL hh v))) (h2 : sFrz is f (ρ.set i (some (.dat (cL c v)))) = r) : sFrz (i :: is) f ρ = r := by
  have h' : ρ[i]? = some (some (.node .lst (v.map hh))) := h
  show sFrz is f (frzE i ρ) = r
  have e : frzE i ρ = ρ.set i (some (.dat (cL c v))) := by
    unfold frzE
    rw [h']
    have hz : freeze (.node .lst (v.map hh)) = some (cL c v) := fzL.fz v
    dsimp only
    rw [hz]
    dsimp only
    rw [putP_nil, h']
  rw [e]; exact h2
theorem r_f {d : D} {ρ : FL.Env} {fe : FE} {o : O} (h : fe ρ = .ok (.tmp o)) (z : freeze o = some d) : rdE fe ρ = .ok d := by rw [rdE_ap, h, Rs.bnd_ok, rd_tmp, z]; rfl
theorem d_f {d : D} {ρ : FL.Env} {fe : FE} {o : O} (h : fe ρ = .ok (.tmp o)) (z : freeze o = some d) : dE fe ρ = .ok d := by rw [dE_ap, h, Rs.bnd_ok, dOf_tmp, z]; rfl
theorem ar_f {d : D} {ρ : FL.Env} {fe : FE} {fos : FOs} {ds : List D} {b : Bool} {o : O} (h1 : fe ρ = .ok (.tmp o)) (z : freeze o = some d) (h : Ar ρ fos ds b) : Ar ρ (oCons fe fos) (d :: ds) b := ar_o h1 z rfl h
theorem st_setf {d : D} {ρ : FL.Env} {fe : FE} {o : O} {i : Nat} (h : fe ρ = .ok (.tmp o)) (z : freeze o = some d) : sSet i (lft fe) ρ = .ok .nx (ρ.set i (some (.dat d))) := by
  rw [sSet_ap, lft_ap, h]
  simp only [RX.thn_ok, toDat_t, z, Option.map_some, toRS_some]
theorem l_ixf {ρ : FL.Env} {fa fb : FE} {o o2 : O} {x y : D} (h1 : fa ρ = .ok (.tmp o)) (z : freeze o = some x) (h2 : rdE fb ρ = .ok y) (h3 : dIx2 x y = .ok o2) : eIx fa fb ρ = .ok (.tmp o2) := by
  rw [eIx_ap, h1, Rs.bnd_ok]
  simp only [z, toRs_some, Rs.bnd_ok, h2, h3]
theorem st_frz0 {d : D} {ρ : FL.Env} {i : Nat} {is : List Nat} {f : FS} {r : RS} (h : ρ[i]? = some (some (.dat d))) (h2 : sFrz is f ρ = r) : sFrz (i :: is) f ρ = r := by
  show sFrz is f (frzE i ρ) = r
  have e : frzE i ρ = ρ := by unfold frzE; rw [h]
  rw [e]; exact h2
def Rt {β : Type} (kp : List Nat) (os : List O) (EO : β → O) (EK : β → List O) (b : β) (r : RS) : Prop := ∃ o ρ, r = .ok (.rt o) ρ ∧ o = EO b ∧ outs kp 0 os ρ = some (EK b)
def RtF {β : Type} (kp : List Nat) (os : List O) (c : β → D) (EK : β → List O) (b : β) (r : RS) : Prop := ∃ o ρ, r = .ok (.rt o) ρ ∧ freeze o = some (c b) ∧ outs kp 0 os ρ = some (EK b)
def RtN (kp : List Nat) (os : List O) (r : RS) : Prop := ∃ ρ, (r = .ok .nx ρ ∨ r = .ok (.rt (.dat .non)) ρ) ∧ outs kp 0 os ρ = some os
theorem run_So {N : Nat} {os : List O} {EO : β → O} {EK : β → List O} {t : Option β} {v : β} (h : So (Rt kp os EO EK) t (f (startE N os))) (e : t = some v) : runF kp N f os = .ok (EO v) (EK v) := by
  obtain ⟨o, ρ, h1, h2, h3⟩ := h v e
  show endF kp os (f (startE N os)) = _
  rw [h1, endF_rt, h3, h2]
theorem rt_st {β : Type} {kp : List Nat} {os : List O} {EO : β → O} {EK : β → List O} : ∀ v r, Rt kp os EO EK v r → Stops r := fun v r ⟨_, _, h, _⟩ => .inl ⟨_, _, h⟩
theorem rtf_st {β : Type} {kp : List Nat} {os : List O} {c : β → D} {EK : β → List O} : ∀ v r, RtF kp os c EK v r → Stops r := fun v r ⟨_, _, h, _⟩ => .inl ⟨_, _, h⟩
def RtU (kp : List Nat) (os : List O) (_ : Unit) (r : RS) : Prop := ∃ ρ, r = .ok (.rt (.dat .non)) ρ ∧ outs kp 0 os ρ = some os
theorem rtu_st {kp : List Nat} {os : List O} : ∀ v r, RtU kp os v r → Stops r := fun v r ⟨_, h, _⟩ => .inl ⟨_, _, h⟩
theorem RtU.n {kp : List Nat} {os : List O} {v : Unit} {r : RS} (h : RtU kp os v r) : RtN kp os r := by obtain ⟨ρ, h1, h2⟩ := h; exact ⟨ρ, .inr h1, h2⟩
def Xq {β : Type} (P : β → RS → Prop) (kp : List Nat) (os : List O) : Ou β → RS → Prop
  | .ok v, r => P v r
  | .exc c fs, r => ∃ ρ, r = .exc c (xF fs) ρ ∧ outs kp 0 os ρ = some os
theorem xq_st {β : Type} {P : β → RS → Prop} {kp : List Nat} {os : List O} (h : ∀ v r, P v r → Stops r) : ∀ v r, Xq P kp os v r → Stops r
  | .ok v, r, z => h v r z
  | .exc c _, r, ⟨_, e, _⟩ => .inr ⟨_, _, _, e⟩
theorem xq_mono {β : Type} {P P' : β → RS → Prop} {kp : List Nat} {os : List O} (h : ∀ v r, P v r → P' v r) : ∀ {v : Ou β} {r : RS}, Xq P kp os v r → Xq P' kp os v r
  | .ok v, r, z => h v r z
  | .exc c _, r, z => z
theorem run_SoX {β : Type} {kp : List Nat} {f : FS} {N : Nat} {os : List O} {EO : β → O} {t : Option (Ou β)} {v : Ou β} (h : So (Xq (Rt kp os EO (fun _ => os)) kp os) t (f (startE N os))) (e : t = some v) : runF kp N f os = rfO EO os v := by
  have z := h v e
  show endF kp os (f (startE N os)) = _
  cases v with
  | ok v =>
    obtain ⟨o, ρ, h1, h2, h3⟩ := z
    rw [h1, endF_rt, h3, h2]; rfl
  | exc c fs =>
    obtain ⟨ρ, h1, h2⟩ := z
    rw [h1, endF_exc, h2]; rfl
theorem run_SoXN {kp : List Nat} {f : FS} {N : Nat} {os : List O} {t : Option (Ou Unit)} {v : Ou Unit} (h : So (Xq (fun _ r => RtN kp os r) kp os) t (f (startE N os))) (e : t = some v) : runF kp N f os = rfO (fun _ => .dat .non) os v := by
  have z := h v e
  show endF kp os (f (startE N os)) = _
  cases v with
  | ok v =>
    obtain ⟨ρ, h1, h2⟩ := z
    rcases h1 with h1 | h1
    · rw [h1, endF_nx, h2]; rfl
    · rw [h1, endF_rt, h2]; rfl
  | exc c fs =>
    obtain ⟨ρ, h1, h2⟩ := z
    rw [h1, endF_exc, h2]; rfl
theorem run_SoF {N : Nat} {os : List O} {c : β → D} {EK : β → List O} {t : Option β} {v : β} (h : So (RtF kp os c EK) t (f (startE N os))) (e : t = some v) : ∃ o, runF kp N f os = .ok o (EK v) ∧ freeze o = some (c v) := by
  obtain ⟨o, ρ, h1, h2, h3⟩ := h v e
  refine ⟨o, ?_, h2⟩
  show endF kp os (f (startE N os)) = _
  rw [h1, endF_rt, h3]
theorem run_SoN {N : Nat} {os : List O} {t : Option Unit} {v : Unit} (h : So (fun _ r => RtN kp os r) t (f (startE N os))) (e : t = some v) : runF kp N f os = .ok (.dat .non) os := by
  obtain ⟨ρ, h1, h2⟩ := h v e
  show endF kp os (f (startE N os)) = _
  rcases h1 with h1 | h1
  · rw [h1, endF_nx, h2]
  · rw [h1, endF_rt, h2]
theorem outs_d (ds : List D) (h : ds.length ≤ ρ.length) : outs [] 0 (ds.map .dat) ρ = some (ds.map .dat) := outs_none ds 0 ρ h
end
section
variable {ρ : FL.Env} {fe fa fb : FE} {fr : FA} {g h : FB} {c : Str} {x y : D} {i : Nat} {ds : List D} {xs : List (Str × D)}
theorem x_r (e : fe ρ = .exc c xs) : rdE fe ρ = .exc c xs := by rw [rdE_ap, e]; rfl
theorem x_d (e : fe ρ = .exc c xs) : dE fe ρ = .exc c xs := by rw [dE_ap, e]; rfl
theorem x_opl {q : D → D → Rs O} (e : rdE fa ρ = .exc c xs) : eOp q fa fb ρ = .exc c xs := by rw [eOp_ap, e]; rfl
theorem x_opr {q : D → D → Rs O} (e0 : rdE fa ρ = .ok x) (e : rdE fb ρ = .exc c xs) : eOp q fa fb ρ = .exc c xs := by rw [eOp_ap, e0, Rs.bnd_ok, e]; rfl
theorem x_un {q : D → Rs O} (e : rdE fa ρ = .exc c xs) : eUn q fa ρ = .exc c xs := by rw [eUn_ap, e]; rfl
theorem x_fn {q : List D → Rs O} (e : fr ρ = .exc c xs) : eFn q fr ρ = .exc c xs := by rw [eFn_ap, e]; rfl
theorem x_rc1 (e : rdE fe ρ = .exc c xs) : rCons fe fr ρ = .exc c xs := by rw [rCons_ap, e]; rfl
theorem x_rc2 (e0 : rdE fe ρ = .ok x) (e : fr ρ = .exc c xs) : rCons fe fr ρ = .exc c xs := by rw [rCons_ap, e0, Rs.bnd_ok, e]; rfl
theorem x_ac1 (e : dE fe ρ = .exc c xs) : aCons fe fr ρ = .exc c xs := by rw [aCons_ap, e]; rfl
theorem x_ac2 (e0 : dE fe ρ = .ok x) (e : fr ρ = .exc c xs) : aCons fe fr ρ = .exc c xs := by rw [aCons_ap, e0, Rs.bnd_ok, e]; rfl
theorem x_ixa (e : fa ρ = .exc c xs) : eIx fa fb ρ = .exc c xs := by rw [eIx_ap, e]; rfl
theorem x_be (e : fe ρ = .exc c xs) : bE fe ρ = .exc c xs := by rw [bE_ap, e]; rfl
theorem x_bnot (e : g ρ = .exc c xs) : bNot g ρ = .exc c xs := by rw [bNot_ap, e]; rfl
theorem x_band (e : g ρ = .exc c xs) : bAnd g h ρ = .exc c xs := by rw [bAnd_ap, e]; rfl
theorem x_bor (e : g ρ = .exc c xs) : bOr g h ρ = .exc c xs := by rw [bOr_ap, e]; rfl
theorem x_set (e : fe ρ = .exc c xs) : sSet i (lft fe) ρ = .exc c xs ρ := by rw [sSet_ap, lft_ap, e]; rfl
theorem x_own (e : fe ρ = .exc c xs) : sOwn i (lft fe) ρ = .exc c xs ρ := by rw [sOwn_ap, lft_ap, e]; rfl
theorem x_drop (e : fe ρ = .exc c xs) : sDrop (lft fe) ρ = .exc c xs ρ := by rw [sDrop_ap, lft_ap, e]; rfl
theorem x_asg {b : FG} (e : fe ρ = .exc c xs) : sAsg b (lft fe) ρ = .exc c xs ρ := by rw [sAsg_ap, lft_ap, e]; rfl
theorem x_ret {kp : List Nat} (e : fe ρ = .exc c xs) : sRet kp (lft fe) ρ = .exc c xs ρ := by rw [sRet_ap, lft_ap, e]; rfl
theorem x_aug {q : D → D → Rs O} (h0 : ρ[i]? = some (some (.dat x))) (e : dE fe ρ = .exc c xs) : muAug q i fe ρ = .exc c xs ρ := by
  rw [muAug_ap, h0]
  simp only [e, Rs.thn_exc]
theorem x_if {a b : FS} (e : g ρ = .exc c xs) : sIf g a b ρ = .exc c xs ρ := by rw [sIf_ap, e]; rfl
theorem l_isx {a : Addr} {dx : Option Addr} {ns : List Str} {l : List D} {b : Bool} (hd : dx = none ∨ ns ≠ []) (e : ρ[i]? = some (some (.dat (.exn a dx ns l)))) : eIsX a dx (some b) (eVar i) ρ = .ok (.tmp (.dat (.bl b))) := by
  rw [eIsX_ap, eIsE_ap, d_d (l_var e), Rs.bnd_ok]
  show ((if a = a ∧ dx = dx ∧ (dx = none ∨ ns ≠ []) then toRs (some (O.dat (D.bl b))) else .bad : Rs O)).bnd okT = _
  rw [if_pos ⟨rfl, rfl, hd⟩]; rfl
end
section
variable {ρ : FL.Env} {fa : FA} {c : Str} {ns : List Str}
theorem zip_xF : ∀ (ns : List Str) (ks : List Int), ns.zip (ks.map D.int) = xF (ns.zip ks)
  | [], _ => by simp [xF]
  | _ :: _, [] => by simp [xF]
  | n :: ns, k :: ks => by
    rw [List.map_cons, List.zip_cons_cons, List.zip_cons_cons, zip_xF ns ks]; rfl
theorem l_raiseF {ks : List Int} (h : fa ρ = .ok (ks.map .int)) (hl : ks.length = ns.length) (hne : ns ≠ []) (h8 : ns.length ≤ 800) : sRaiseF c ns fa ρ = .exc c (xF (ns.zip ks).reverse) ρ := by
  unfold sRaiseF
  rw [h]
  simp only [List.length_map]
  rw [if_pos ⟨hl, hne, h8⟩, zip_xF]
  unfold xF
  rw [List.map_reverse]
theorem x_raiseF {cc : Str} {xs : List (Str × D)} (h : fa ρ = .exc cc xs) : sRaiseF c ns fa ρ = .exc cc xs ρ := by unfold sRaiseF; rw [h]
end
section
variable {α β σ : Type}
theorem forT_inv {tb : α → σ → Option σ} (P : List α → σ → Prop) {l : List α} {s0 : σ} (h0 : P [] s0) (H : ∀ d x r, l = d ++ x :: r → ∀ s, P d s → ∃ s', tb x s = some s' ∧ P (d ++ [x]) s') : ∃ s, forT tb l s0 = some s ∧ P l s := by
  have key : ∀ (r d : List α) (s : σ), l = d ++ r → P d s → ∃ s', forT tb r s = some s' ∧ P l s' := fun r => by
    induction r with
    | nil => intro d s e h; rw [List.append_nil] at e; subst e; exact ⟨s, rfl, h⟩
    | cons x r ih =>
      intro d s e h
      obtain ⟨s', e1, h1⟩ := H d x r e s h
      obtain ⟨s2, e2, h2⟩ := ih (d ++ [x]) s' (by rw [e, List.append_assoc]; rfl) h1
      exact ⟨s2, by show (tb x s).bind _ = _; rw [e1]; exact e2, h2⟩
  exact key l [] s0 rfl h0
theorem forT_fold {tb : α → σ → Option σ} {g : σ → α → σ} : ∀ {l : List α} {s : σ}, (∀ x ∈ l, ∀ s, tb x s = some (g s x)) → forT tb l s = some (l.foldl g s)
  | [], s, _ => rfl
  | x :: l, s, h => by
    show (tb x s).bind _ = _
    rw [h x List.mem_cons_self s, Option.bind_some, forT_fold fun y hy => h y (List.mem_cons_of_mem _ hy)]
    rfl
theorem lcT_ok {l : List α} {p : α → Option Bool} {e : α → Option β} (p' : α → Bool) (e' : α → β) (h1 : ∀ x ∈ l, p x = some (p' x)) (h2 : ∀ x ∈ l, p' x = true → e x = some (e' x)) (h3 : l.length ≤ 16777216) : lcT l p e = some ((l.filter p').map e') := by
  have key : lcLT p e l = some ((l.filter p').map e') := by
    clear h3
    induction l with
    | nil => rfl
    | cons x l ih =>
      show (p x).bind _ = _
      rw [h1 x List.mem_cons_self, Option.bind_some, ih (fun y hy => h1 y (List.mem_cons_of_mem _ hy)) fun y hy => h2 y (List.mem_cons_of_mem _ hy)]
      cases z : p' x with
      | true => rw [if_pos rfl, h2 x List.mem_cons_self z, List.filter_cons_of_pos z]; rfl
      | false => rw [if_neg (by decide), List.filter_cons_of_neg (by rw [z]; decide)]
  unfold lcT
  rw [key, Option.bind_some, if_pos]
  rw [List.length_map]
  exact Nat.le_trans (List.length_filter_le _ _) h3
theorem lcT_map {l : List α} {e : α → Option β} (e' : α → β) (h2 : ∀ x ∈ l, e x = some (e' x)) (h3 : l.length ≤ 16777216) : lcT l (fun _ => some true) e = some (l.map e') := by
  rw [lcT_ok (fun _ => true) e' (fun _ _ => rfl) (fun x hx _ => h2 x hx) h3, List.filter_eq_self.mpr fun _ _ => rfl]
theorem atI_n {l : List α} {k : Nat} (h : k < l.length) : atI l (k : Int) = some l[k] := atI_ok rfl (List.getElem?_eq_getElem h)
theorem appT_ok {l : List α} {x : α} (h : l.length < 16777216) : appT l x = some (l ++ [x]) := if_pos h
theorem extT_ok {l l2 : List α} (h : l.length + l2.length < 16777216) : extT l l2 = some (l ++ l2) := if_pos h
theorem insT_ok {l : List α} {x : α} (h : l.length < 16777216) : insT l x = some (x :: l) := if_pos h
theorem catT_ok {l l2 : List α} (h : l.length + l2.length ≤ 16777216) : catT l l2 = some (l ++ l2) := if_pos h
theorem setT_n {l : List α} {k : Nat} {x : α} (h : k < l.length) : setT l (k : Int) x = some (l.set k x) := by
  unfold setT
  have e : ixN l.length (k : Int) = some k := by
    unfold ixN
    rw [if_pos (by omega), if_pos (by omega), Int.toNat_natCast]
  rw [e, Option.bind_some, if_pos h]
theorem mulT_pos {a b : Int} (ha0 : 0 ≤ a) (ha : a < 10 ^ 200) (hb0 : 0 ≤ b) (hb : b < 10 ^ 200) : mulT a b = some (a * b) := if_pos (okMul_pos ha0 ha hb0 hb)
theorem mulT_r {a b : Int} (h : -(2 ^ 64) < b ∧ b < 2 ^ 64) : mulT a b = some (a * b) := if_pos (.inr (.inr h))
theorem mulT_abs {a b : Int} (ha : a.natAbs < 10 ^ 200) (hb : b.natAbs < 10 ^ 200) : mulT a b = some (a * b) := if_pos (okMul_sm (Nat.lt_trans ha p200) (Nat.lt_trans hb p200))
theorem divT_ok {a b : Int} (h : 0 < b) (h2 : b < 10 ^ 60) : divT a b = some (a / b) := if_pos ⟨h, log_sm h h2⟩
theorem modT_ok {a b : Int} (h : 0 < b) : modT a b = some (a % b) := if_pos h
theorem rngT_ok {a b : Int} (h : -1000000000000 ≤ a ∧ a ≤ 1000000000000) (h2 : -1000000000000 ≤ b ∧ b ≤ 1000000000000) : rngT a b = some (ilst a b) := if_pos ⟨⟨by omega, by omega⟩, ⟨by omega, by omega⟩⟩
theorem rngT_n {n : Nat} (h : n ≤ 1000000000000) : rngT 0 (n : Int) = some ((List.range n).map fun (k : Nat) => (k : Int)) := by rw [rngT_ok (by omega) (by omega), ilst_nat]
theorem ilst_nn (a b : Nat) : ilst (a : Int) (b : Int) = (List.range' a (b - a)).map fun (k : Nat) => (k : Int) := by
  unfold ilst
  rw [List.range'_eq_map_range, List.map_map]
  have e : ((b : Int) - (a : Int)).toNat = b - a := by omega
  rw [e]
  exact List.map_congr_left fun k _ => by simp
theorem rngT_nn {a b : Nat} (h : a ≤ 1000000000000) (h2 : b ≤ 1000000000000) : rngT (a : Int) (b : Int) = some ((List.range' a (b - a)).map fun (k : Nat) => (k : Int)) := by rw [rngT_ok (by omega) (by omega), ilst_nn]
theorem repT_1 {x : α} {k : Nat} (h : k < 16777216) : repT [x] (k : Int) = some (List.replicate k x) := by
  unfold repT
  rw [if_pos (okRep_ok (by simp; omega) (by omega) (by omega)), Int.toNat_natCast]
  congr 1
  clear h
  induction k with
  | zero => rfl
  | succ n ih => rw [List.replicate_succ, List.replicate_succ, List.flatten_cons, ih]; rfl
end
end FL
namespace FL
open PySem L2
def keyI (k : Int) : Key := .inl k
def keyW (k : List Int) : List Key := k.map .inl
def cK {α : Type} (c : α → D) (l : List (Int × α)) : D := .obj (.dct (l.map fun p => keyI p.1)) (l.map fun p => c p.2)
def hK {α : Type} (h : α → O) (l : List (Int × α)) : O := .node (.dct (l.map fun p => keyI p.1)) (l.map fun p => h p.2)
def cW {α : Type} (c : α → D) (l : List (List Int × α)) : D := .obj (.dcT (l.map fun p => keyW p.1)) (l.map fun p => c p.2)
def hW {α : Type} (h : α → O) (l : List (List Int × α)) : O := .node (.dcT (l.map fun p => keyW p.1)) (l.map fun p => h p.2)
def idxK {κ α : Type} [DecidableEq κ] (l : List (κ × α)) (k : κ) : Option Nat := l.findIdx? fun p => decide (p.1 = k)
def lookT {κ α : Type} [DecidableEq κ] (l : List (κ × α)) (k : κ) : Option α := (idxK l k).bind fun j => l[j]?.map (·.2)
def putL {κ α : Type} [DecidableEq κ] (l : List (κ × α)) (k : κ) (v : α) : List (κ × α) := match idxK l k with
  | some j => l.set j (k, v)
  | none => l ++ [(k, v)]
def putT {κ α : Type} [DecidableEq κ] (l : List (κ × α)) (k : κ) (v : α) : Option (List (κ × α)) := if l.length < 16777216 ∧ (l.map (·.1)).Nodup then some (putL l k v) else none
theorem keyI_inj {a b : Int} : keyI a = keyI b ↔ a = b := ⟨fun h => by unfold keyI at h; cases h; rfl, fun h => by rw [h]⟩
theorem keyW_inj : ∀ {a b : List Int}, keyW a = keyW b ↔ a = b
  | [], [] => by simp [keyW]
  | [], _ :: _ => by simp [keyW]
  | _ :: _, [] => by simp [keyW]
  | x :: a, y :: b => by
    have := keyW_inj (a := a) (b := b)
    unfold keyW at this ⊢
    rw [List.map_cons, List.map_cons, List.cons.injEq, List.cons.injEq, this]
    constructor
    · rintro ⟨h, h2⟩; cases h; exact ⟨rfl, h2⟩
    · rintro ⟨h, h2⟩; rw [h]; exact ⟨rfl, h2⟩
theorem idx_map {κ κ' α : Type} [DecidableEq κ] [DecidableEq κ'] {f : κ → κ'} (hf : ∀ a b, f a = f b ↔ a = b) (l : List (κ × α)) (k : κ) : ((l.map fun p => f p.1).findIdx? fun z => decide (z = f k)) = idxK l k := by
  unfold idxK
  rw [List.findIdx?_map]
  congr 1
  funext p
  exact decide_eq_decide.mpr (hf _ _)
theorem idxK_at {κ α : Type} [DecidableEq κ] {l : List (κ × α)} {k : κ} {j : Nat} (h : idxK l k = some j) : ∃ v, l[j]? = some (k, v) ∧ lookT l k = some v := by
  unfold idxK at h
  obtain ⟨hj, h2, _⟩ := List.findIdx?_eq_some_iff_getElem.mp h
  have e : l[j].1 = k := by simpa using h2
  refine ⟨l[j].2, by rw [List.getElem?_eq_getElem hj, ← e], ?_⟩
  unfold lookT idxK
  rw [h, Option.bind_some, List.getElem?_eq_getElem hj]
  rfl
theorem kid_K {α : Type} (l : List (Int × α)) (n : Nat) (k : Int) : kidIx (.dct (l.map fun p => keyI p.1)) n (.int k) = idxK l k := idx_map (fun _ _ => keyI_inj) l k
theorem keysD_w (k : List Int) : keysD (k.map D.int) = some (keyW k) := by
  induction k with
  | nil => rfl
  | cons x k ih =>
    show (match keyD (.int x), keysD (k.map D.int) with
      | some k, some ks => some (k :: ks)
      | _, _ => none) = _
    rw [ih]; rfl
theorem kid_W {α : Type} (l : List (List Int × α)) (n : Nat) (k : List Int) : kidIx (.dcT (l.map fun p => keyW p.1)) n (cT D.int k) = idxK l k := by
  show ((keysD (k.map D.int)).bind fun k => (l.map fun p => keyW p.1).findIdx? fun z => decide (z = k)) = _
  rw [keysD_w, Option.bind_some]
  exact idx_map (fun _ _ => keyW_inj) l k
theorem ix_K {α : Type} {c : α → D} {l : List (Int × α)} {k : Int} {v : α} (h : lookT l k = some v) : dIx2 (cK c l) (.int k) = .ok (.dat (c v)) := by
  obtain ⟨j, e1, e2⟩ := ob h
  obtain ⟨p, e3, rfl⟩ := Option.map_eq_some_iff.mp e2
  show (match (kidIx (.dct (l.map fun p => keyI p.1)) (l.map fun p => c p.2).length (.int k)).bind ((l.map fun p => c p.2)[·]?) with
    | some d => Rs.ok (O.dat d)
    | none => .bad) = _
  rw [kid_K, e1, Option.bind_some, List.getElem?_map, e3]; rfl
theorem ix_W {α : Type} {c : α → D} {l : List (List Int × α)} {k : List Int} {v : α} (h : lookT l k = some v) : dIx2 (cW c l) (cT D.int k) = .ok (.dat (c v)) := by
  obtain ⟨j, e1, e2⟩ := ob h
  obtain ⟨p, e3, rfl⟩ := Option.map_eq_some_iff.mp e2
  show (match (kidIx (.dcT (l.map fun p => keyW p.1)) (l.map fun p => c p.2).length (cT D.int k)).bind ((l.map fun p => c p.2)[·]?) with
    | some d => Rs.ok (O.dat d)
    | none => .bad) = _
  rw [kid_W, e1, Option.bind_some, List.getElem?_map, e3]; rfl
instance fzK {α : Type} {h : α → O} {c : α → D} [g : Fz h c] : Fz (hK h) (cK c) := ⟨fun x => by
  show freeze (.node (.dct _) (x.map fun p => h p.2)) = _
  have e : freezes (x.map fun p => h p.2) = some (x.map fun p => c p.2) := by
    induction x with
    | nil => rfl
    | cons y l ih => rw [List.map_cons, freezes_co, g.fz, ih]; rfl
  show (match freezes (x.map fun p => h p.2) with
    | none => none
    | some ds => some (D.obj (.dct _) ds)) = _
  rw [e]; rfl⟩
instance fzW {α : Type} {h : α → O} {c : α → D} [g : Fz h c] : Fz (hW h) (cW c) := ⟨fun x => by
  show freeze (.node (.dcT _) (x.map fun p => h p.2)) = _
  have e : freezes (x.map fun p => h p.2) = some (x.map fun p => c p.2) := by
    induction x with
    | nil => rfl
    | cons y l ih => rw [List.map_cons, freezes_co, g.fz, ih]; rfl
  show (match freezes (x.map fun p => h p.2) with
    | none => none
    | some ds => some (D.obj (.dcT _) ds)) = _
  rw [e]; rfl⟩
section
variable {ρ : FL.Env} {i : Nat} {fe fa fb fc : FE} {fos : FOs} {k : Int} {d y : D} {ds : List D} {b : Bool} {o : O}
theorem dnew_K {α : Type} {h : α → O} : eDnew false ρ = .ok (.tmp (hK h [])) := rfl
theorem dnew_W {α : Type} {h : α → O} : eDnew true ρ = .ok (.tmp (hW h [])) := rfl
theorem d1_K {α : Type} {h : α → O} {v : α} (h1 : dE fa ρ = .ok (.int k)) (h2 : fb ρ = .ok (.tmp (h v))) : eD1 fa fb ρ = .ok (.tmp (hK h [(k, v)])) := by
  rw [eD1_ap, h1, Rs.bnd_ok, h2]; rfl
theorem putKid_eq {κ κ' α : Type} [DecidableEq κ] [DecidableEq κ'] {f : κ → κ'} (hf : ∀ a b, f a = f b ↔ a = b) {h : α → O} (l : List (κ × α)) (k : κ) (v : α) : putKid (l.map fun p => f p.1) (f k) (l.map fun p => h p.2) (h v) = ((putL l k v).map fun p => f p.1, (putL l k v).map fun p => h p.2) := by
  have e := idx_map hf l k
  unfold putKid putL
  rw [e]
  cases z2 : idxK l k with
  | none => simp only [List.map_append]; rfl
  | some j =>
    obtain ⟨w, hw, _⟩ := idxK_at z2
    simp only [List.map_set]
    congr 1
    apply List.ext_getElem?
    intro n
    rw [List.getElem?_set]
    by_cases hn : j = n
    · subst hn
      obtain ⟨hj, _⟩ := List.getElem?_eq_some_iff.mp hw
      have e3 : l[j] = (k, w) := (List.getElem?_eq_some_iff.mp hw).2
      simp [hj, e3]
    · rw [if_neg hn]
theorem put_K {α : Type} {h : α → O} {l l' : List (Int × α)} {v : α} (hv : putT l k v = some l') : muSet2 (.dct (l.map fun p => keyI p.1)) (l.map fun p => h p.2) [.dat (.int k), h v] = some (.dct (l'.map fun p => keyI p.1), l'.map fun p => h p.2, .dat .non) := by
  unfold putT at hv
  split at hv
  · next z =>
    cases hv
    have nd : (l.map fun p => keyI p.1).Nodup := by
      have e : (l.map fun p => keyI p.1) = (l.map (·.1)).map keyI := by rw [List.map_map]; rfl
      have := List.nodup_iff_pairwise_ne.mp z.2
      rw [e, List.nodup_iff_pairwise_ne, List.pairwise_map]
      exact this.imp fun h e => h (keyI_inj.mp e)
    show (if (l.map fun p => h p.2).length < sizeLine ∧ (l.map fun p => keyI p.1).length = (l.map fun p => h p.2).length ∧ (l.map fun p => keyI p.1).Nodup then (keyD (.int k)).map fun k => (Tag.dct (putKid (l.map fun p => keyI p.1) k (l.map fun p => h p.2) (h v)).1, (putKid (l.map fun p => keyI p.1) k (l.map fun p => h p.2) (h v)).2, O.dat .non) else none) = _
    rw [if_pos ⟨szl_lt (by rw [List.length_map]; exact z.1), by rw [List.length_map, List.length_map], nd⟩]
    show some (Tag.dct (putKid (l.map fun p => keyI p.1) (keyI k) (l.map fun p => h p.2) (h v)).1, (putKid (l.map fun p => keyI p.1) (keyI k) (l.map fun p => h p.2) (h v)).2, O.dat .non) = _
    rw [putKid_eq (fun _ _ => keyI_inj)]
  · cases hv
theorem put_W {α : Type} {h : α → O} {l l' : List (List Int × α)} {k : List Int} {v : α} (hv : putT l k v = some l') : muSet2 (.dcT (l.map fun p => keyW p.1)) (l.map fun p => h p.2) [.dat (cT D.int k), h v] = some (.dcT (l'.map fun p => keyW p.1), l'.map fun p => h p.2, .dat .non) := by
  unfold putT at hv
  split at hv
  · next z =>
    cases hv
    have nd : (l.map fun p => keyW p.1).Nodup := by
      have e : (l.map fun p => keyW p.1) = (l.map (·.1)).map keyW := by rw [List.map_map]; rfl
      have := List.nodup_iff_pairwise_ne.mp z.2
      rw [e, List.nodup_iff_pairwise_ne, List.pairwise_map]
      exact this.imp fun h e => h (keyW_inj.mp e)
    show (if (l.map fun p => h p.2).length < sizeLine ∧ (l.map fun p => keyW p.1).length = (l.map fun p => h p.2).length ∧ (l.map fun p => keyW p.1).Nodup then (keysD (k.map D.int)).map fun k => (Tag.dcT (putKid (l.map fun p => keyW p.1) k (l.map fun p => h p.2) (h v)).1, (putKid (l.map fun p => keyW p.1) k (l.map fun p => h p.2) (h v)).2, O.dat .non) else none) = _
    rw [if_pos ⟨szl_lt (by rw [List.length_map]; exact z.1), by rw [List.length_map, List.length_map], nd⟩, keysD_w]
    show some (Tag.dcT (putKid (l.map fun p => keyW p.1) (keyW k) (l.map fun p => h p.2) (h v)).1, (putKid (l.map fun p => keyW p.1) (keyW k) (l.map fun p => h p.2) (h v)).2, O.dat .non) = _
    rw [putKid_eq (fun _ _ => keyW_inj)]
  · cases hv
theorem st_stoG {t : Tag} {l : List O} {t' : Tag} {l' : List O} {x : O} (hi : ρ[i]? = some (some (.node t l))) (hk : dE fb ρ = .ok d) (ha : fe ρ = .ok (.tmp x)) (hM : muSet2 t l [.dat d, x] = some (t', l', .dat .non)) : sSto muSet2 (lft fe) (eVar i) fb ρ = .ok .nx (ρ.set i (some (.node t' l'))) := by
  rw [sSto_ap, lft_ap, ha]
  simp only [RX.thn_ok, toOwn_t, toRS_some, eVar_ap, hi, Rs.thn_ok, hk, muRes_nil, hM]
  rfl
theorem st_stoK {α : Type} {h : α → O} {l l' : List (Int × α)} {v : α} (hi : ρ[i]? = some (some (hK h l))) (hk : dE fb ρ = .ok (.int k)) (ha : fe ρ = .ok (.tmp (h v))) (hv : putT l k v = some l') : sSto muSet2 (lft fe) (eVar i) fb ρ = .ok .nx (ρ.set i (some (hK h l'))) :=
  st_stoG (t := .dct (l.map fun (p : Int × α) => keyI p.1)) (l := l.map fun (p : Int × α) => h p.2) hi hk ha (put_K hv)
theorem st_stoW {α : Type} {h : α → O} {l l' : List (List Int × α)} {k : List Int} {v : α} (hi : ρ[i]? = some (some (hW h l))) (hk : dE fb ρ = .ok (cT D.int k)) (ha : fe ρ = .ok (.tmp (h v))) (hv : putT l k v = some l') : sSto muSet2 (lft fe) (eVar i) fb ρ = .ok .nx (ρ.set i (some (hW h l'))) :=
  st_stoG (t := .dcT (l.map fun (p : List Int × α) => keyW p.1)) (l := l.map fun (p : List Int × α) => h p.2) hi hk ha (put_W hv)
theorem ar_pG {t : Tag} {l : List O} {d : D} (h1 : ρ[i]? = some (some (.node t l))) (h2 : freeze (.node t l) = some d) (h : Ar ρ fos ds b) : Ar ρ (oCons (eVar i) fos) (d :: ds) false := by
  have := ar_o (d := d) (l_own h1) (by rw [argD_plc, getP_nil, h1, Option.join_some, Option.bind_some]; exact h2) rfl h
  exact this
theorem ar_pK {α : Type} {hh : α → O} {c : α → D} [z : Fz hh c] {l : List (Int × α)} (h1 : ρ[i]? = some (some (hK hh l))) (h : Ar ρ fos ds b) : Ar ρ (oCons (eVar i) fos) (cK c l :: ds) false :=
  ar_pG (t := .dct (l.map fun (p : Int × α) => keyI p.1)) (l := l.map fun (p : Int × α) => hh p.2) h1 ((fzK (g := z)).fz l) h
theorem isT_Oi {x : Option Int} : dIsT "int" (cO D.int x) = .ok (.dat (.bl x.isSome)) := by
  cases x with
  | none => exact isT_eq (t := "NoneType") rfl (by decide +kernel)
  | some x => exact isT_ii x
theorem isT_Ob {x : Option Int} : dIsT "bool" (cO D.int x) = .ok (.dat (.bl false)) := by
  cases x with
  | none => exact isT_eq (t := "NoneType") rfl (by decide +kernel)
  | some x => exact isT_ib x
theorem l_try {o : Opd} (h : fe ρ = .ok o) : eTry fe ρ = .ok o := by rw [eTry_ap, h]
theorem fzl_nil : frzEs [] = [] := rfl
theorem fzl_c {x y : Option O} {r r' : FL.Env} (h : fz1 x = y) (h2 : frzEs r = r') : frzEs (x :: r) = y :: r' := by rw [← h, ← h2]; rfl
theorem fz1_own {α : Type} {hh : α → O} {c : α → D} [z : Fz hh c] {v : α} : fz1 (some (hh v)) = some (.dat (c v)) := by unfold fz1; rw [Option.bind_some, z.fz]; rfl
theorem l_lcQ {α β : Type} {hh : α → O} {h : β → O} [k : Cl h] {b : FG} {g : FB} {vs : List Nat} {l : List (List α)} {p : List α → Option Bool} {e : List α → Option β} {r : List β} {ρ2 : FL.Env} (hs : ρ[i]? = some (some (hL (hL hh) l))) (hz : frzEs ρ = ρ2)
    (h2 : eLc (iSeq (rdE (eVar i))) b g fe vs ρ2 = .ok (.tmp (hL h r))) (hr : lcT l p e = some r) : eTry (eLc (iSeq (rdE (eVar i))) b g fe vs) ρ = .ok (.tmp (hL h r)) := by
  have hs' : ρ[i]? = some (some (.node .lst (l.map (hL hh)))) := hs
  cases l with
  | nil =>
    cases hr
    refine l_try ?_
    rw [eLc_ap, iSeq_ap, rdE_ap, l_own hs', Rs.bnd_ok, rd_plc, hs']
    rfl
  | cons x l =>
    have hb : eLc (iSeq (rdE (eVar i))) b g fe vs ρ = .bad := by
      rw [eLc_ap, iSeq_ap, rdE_ap, l_own hs', Rs.bnd_ok, rd_plc, hs']
      rfl
    rw [eTry_ap, hb, hz, h2]
    show (if cleanO (hL h r) = true then _ else _) = _
    rw [if_pos ((clL (g := k)).cl r)]
theorem at_q {α : Type} {hh : α → O} {l : List (List α)} {row : List α} (h1 : ρ[i]? = some (some (hL (hL hh) l))) (h2 : rdE fb ρ = .ok (.int k)) (h3 : atI l k = some row) : ∃ j, ixN l.length k = some j ∧ l[j]? = some row ∧ eIx (eVar i) fb ρ = .ok (.plc i [j]) := by
  have h' : ρ[i]? = some (some (.node .lst (l.map (hL hh)))) := h1
  obtain ⟨j, e1, e2⟩ := ob h3
  refine ⟨j, e1, e2, ?_⟩
  rw [eIx_ap, l_own h', Rs.bnd_ok]
  simp only [h2, Rs.bnd_ok, getP_nil, h', Option.join_some]
  have hlt : j < l.length := (List.getElem?_eq_some_iff.mp e2).1
  have e4 : kidIx .lst (l.map (hL hh)).length (.int k) = some j := by rw [List.length_map]; exact e1
  unfold plcIx
  rw [e4]
  simp only [List.getElem?_map, e2, Option.map_some]
  rfl
theorem r_q {α : Type} {c : α → D} {l : List (List α)} {row : List α} (h1 : ρ[i]? = some (some (hL (hL (hD c)) l))) (h2 : rdE fb ρ = .ok (.int k)) (h3 : atI l k = some row) : rdE (eIx (eVar i) fb) ρ = .ok (cL c row) := by
  obtain ⟨j, e1, e2, e3⟩ := at_q h1 h2 h3
  have h' : ρ[i]? = some (some (.node .lst (l.map (hL (hD c))))) := h1
  rw [rdE_ap, e3, Rs.bnd_ok, rd_1, h']
  simp only [List.getElem?_map, e2, Option.map_some]
  show toRs ((dats (row.map (hD c))).map (mkD .lst)) = _
  rw [dats_h]; rfl
theorem ar_q {α : Type} {c : α → D} {hh : α → O} [z : Fz hh c] {l : List (List α)} {row : List α} (h1 : ρ[i]? = some (some (hL (hL hh) l))) (h2 : rdE fb ρ = .ok (.int k)) (h3 : atI l k = some row) (h : Ar ρ fos ds b) : Ar ρ (oCons (eIx (eVar i) fb) fos) (cL c row :: ds) false := by
  obtain ⟨j, e1, e2, e3⟩ := at_q h1 h2 h3
  have h' : ρ[i]? = some (some (.node .lst (l.map (hL hh)))) := h1
  have := ar_o (d := cL c row) e3 (by
    rw [argD_plc, getP_1, h']
    simp only [List.getElem?_map, e2, Option.map_some, Option.bind_some]
    exact (fzL (g := z)).fz row) rfl h
  exact this
theorem l_ixq {α : Type} {c : α → D} {l : List (List α)} {row : List α} {k2 : Int} {v : α} (h1 : ρ[i]? = some (some (hL (hL (hD c)) l))) (h2 : rdE fb ρ = .ok (.int k)) (h3 : atI l k = some row) (h4 : rdE fc ρ = .ok (.int k2)) (h5 : atI row k2 = some v) : eIx (eIx (eVar i) fb) fc ρ = .ok (.tmp (.dat (c v))) := by
  obtain ⟨j, e1, e2, e3⟩ := at_q h1 h2 h3
  have h' : ρ[i]? = some (some (.node .lst (l.map (hL (hD c))))) := h1
  rw [eIx_ap, e3, Rs.bnd_ok]
  simp only [h4, Rs.bnd_ok, getP_1, h', List.getElem?_map, e2, Option.map_some]
  show plcIx i [j] .lst (row.map (hD c)) (.int k2) = _
  exact plcIx_lst (by rw [atI_map, h5]; rfl)
def app1T {α : Type} (l : List (List α)) (k : Int) (x : α) : Option (List (List α)) := (ixN l.length k).bind fun j => l[j]?.bind fun row => (appT row x).map fun r => l.set j r
def sto1T {α : Type} (l : List (List α)) (k k2 : Int) (x : α) : Option (List (List α)) := (ixN l.length k).bind fun j => l[j]?.bind fun row => (setT row k2 x).map fun r => l.set j r
theorem st_app1 {α : Type} {hh : α → O} {l l' : List (List α)} {x : α} (hi : ρ[i]? = some (some (hL (hL hh) l))) (hk : rdE fb ρ = .ok (.int k)) (ha : fe ρ = .ok (.tmp (hh x))) (hv : app1T l k x = some l') : sDrop (xMut "list" muApp (eIx (eVar i) fb) (oCons fe oNil)) ρ = .ok .nx (ρ.set i (some (hL (hL hh) l'))) := by
  obtain ⟨j, e1, e2⟩ := ob hv
  obtain ⟨row, e3, e4⟩ := ob e2
  obtain ⟨r, e5, rfl⟩ := Option.map_eq_some_iff.mp e4
  obtain ⟨j2, f1, f2, f3⟩ := at_q hi hk (show atI l k = some row by unfold atI; rw [e1]; exact e3)
  rw [e1] at f1; cases f1
  have h' : ρ[i]? = some (some (.node .lst (l.map (hL hh)))) := hi
  unfold appT at e5
  split at e5
  · next z =>
    cases e5
    rw [sDrop_ap]
    simp only [xMut_ap, f3, getP_1, h', List.getElem?_map, e3, Option.map_some]
    have ha' : oCons fe oNil ρ = .ok [.tmp (hh x)] := by rw [oCons_ap, ha]; rfl
    show ((if isT "list" (some (O.node .lst (row.map hh))) = true then (match oCons fe oNil ρ with
      | .ok os => (match tmps os with
        | some args => muRes muApp i [j] args ρ
        | none => .bad)
      | .exc c fs => .exc c fs ρ
      | .bad => .bad) else RX.bad).thn fun _ => sNx) = _
    rw [ha']
    simp only [isT_lst, muRes_1, h', List.getElem?_map, e3, Option.map_some]
    show (match muApp .lst (row.map hh) [hh x] with
        | some (t', l', res) => RX.ok (.tmp res) (ρ.set i (some (.node .lst ((l.map (hL hh)).set j (.node t' l')))))
        | none => .bad).thn (fun _ => sNx) = _
    rw [muApp_ok (by rw [List.length_map]; exact z)]
    show RS.ok Fl.nx _ = _
    have e6 : (l.map (hL hh)).set j (.node .lst (row.map hh ++ [hh x])) = (l.set j (row ++ [x])).map (hL hh) := by
      rw [List.map_set]
      congr 1
      show O.node .lst _ = O.node .lst _
      rw [List.map_append]; rfl
    rw [e6]; rfl
  · cases e5
theorem st_sto1 {α : Type} {hh : α → O} {l l' : List (List α)} {x : α} {k2 : Int} (hi : ρ[i]? = some (some (hL (hL hh) l))) (hk : rdE fb ρ = .ok (.int k)) (hk2 : dE fc ρ = .ok (.int k2)) (ha : fe ρ = .ok (.tmp (hh x))) (hv : sto1T l k k2 x = some l') : sSto muSet2 (lft fe) (eIx (eVar i) fb) fc ρ = .ok .nx (ρ.set i (some (hL (hL hh) l'))) := by
  obtain ⟨j, e1, e2⟩ := ob hv
  obtain ⟨row, e3, e4⟩ := ob e2
  obtain ⟨r, e5, rfl⟩ := Option.map_eq_some_iff.mp e4
  obtain ⟨j2, f1, f2, f3⟩ := at_q hi hk (show atI l k = some row by unfold atI; rw [e1]; exact e3)
  rw [e1] at f1; cases f1
  have h' : ρ[i]? = some (some (.node .lst (l.map (hL hh)))) := hi
  obtain ⟨j3, g1, g2⟩ := ob e5
  split at g2
  · next z =>
    cases g2
    rw [sSto_ap, lft_ap, ha]
    simp only [RX.thn_ok, toOwn_t, toRS_some, f3, Rs.thn_ok, hk2, muRes_1, h', List.getElem?_map, e3, Option.map_some]
    have e6 : muSet2 .lst (row.map hh) [.dat (.int k2), hh x] = some (.lst, (row.set j3 x).map hh, .dat .non) := by
      show (match ixN (row.map hh).length k2 with
        | some j => if j < (row.map hh).length then some (Tag.lst, (row.map hh).set j (hh x), O.dat .non) else none
        | none => none) = _
      rw [List.length_map, g1]
      dsimp only
      rw [if_pos z, List.map_set]
    show (match muSet2 .lst (row.map hh) [.dat (.int k2), hh x] with
        | some (t', l', res) => RX.ok (.tmp res) (ρ.set i (some (.node .lst ((l.map (hL hh)).set j (.node t' l')))))
        | none => .bad).thn (fun _ => sNx) = _
    rw [e6]
    show RS.ok Fl.nx _ = _
    have e7 : (l.map (hL hh)).set j (.node .lst ((row.set j3 x).map hh)) = (l.set j (row.set j3 x)).map (hL hh) := by
      show (l.map (hL hh)).set j (hL hh (row.set j3 x)) = _
      rw [← List.map_set]
    rw [e7]; rfl
  · cases g2
def Xa (ρ : FL.Env) (fos : FOs) (args : List O) (q : Option (Nat × Nat)) : Prop := ∃ os, fos ρ = .ok os ∧ xArgs ρ os = some args ∧ (match q with
  | none => os.all isTmp = true ∧ onePlc os = none
  | some (j, i) => onePlc os = some (j, i, []))
theorem xa_nil : Xa ρ oNil [] none := ⟨[], rfl, rfl, rfl, rfl⟩
theorem xa_t {args : List O} {q : Option (Nat × Nat)} (h1 : fe ρ = .ok (.tmp o)) (h2 : freeze o = some d) (h : Xa ρ fos args q) : Xa ρ (oCons fe fos) (.dat d :: args) (q.map fun p => (p.1 + 1, p.2)) := by
  obtain ⟨os, e1, e2, e3⟩ := h
  refine ⟨.tmp o :: os, by rw [oCons_ap, h1, Rs.bnd_ok, e1]; rfl, ?_, ?_⟩
  · show (match freeze o, xArgs ρ os with
      | some d, some l => some (O.dat d :: l)
      | _, _ => none) = _
    rw [h2, e2]
  · cases q with
    | none =>
      refine ⟨e3.1, ?_⟩
      show (onePlc os).map _ = none
      rw [e3.2]; rfl
    | some p =>
      show (onePlc os).map _ = _
      have e3 : onePlc os = some (p.1, p.2, []) := e3
      rw [e3]; rfl
theorem xa_d {args : List O} {q : Option (Nat × Nat)} (h1 : fe ρ = .ok (.tmp (.dat d))) (h : Xa ρ fos args q) : Xa ρ (oCons fe fos) (.dat d :: args) (q.map fun p => (p.1 + 1, p.2)) := xa_t h1 rfl h
theorem xa_p {args : List O} {t : Tag} {l : List O} (h1 : ρ[i]? = some (some (.node t l))) (h : Xa ρ fos args none) : Xa ρ (oCons (eVar i) fos) (.node t l :: args) (some (0, i)) := by
  obtain ⟨os, e1, e2, e3⟩ := h
  refine ⟨.plc i [] :: os, by rw [oCons_ap, l_own h1, Rs.bnd_ok, e1]; rfl, ?_, ?_⟩
  · show (match getP ρ i [], xArgs ρ os with
      | some o, some l => some (o :: l)
      | _, _ => none) = _
    rw [getP_nil, h1, e2]; rfl
  · show (if os.all isTmp = true then some (0, i, []) else none) = _
    rw [if_pos e3.1]
theorem x_call {F : List O → RF} {args os : List O} {j : Nat} {o2 : O} {u : O} (h : Xa ρ fos args (some (j, i))) (hs : ρ[i]? = some (some u)) (hF : F args = .ok o os) (ho : os[j]? = some o2) : xCall F fos ρ = .ok (.tmp o) (ρ.set i (some o2)) := by
  obtain ⟨us, e1, e2, e3⟩ := h
  have e3 : onePlc us = some (j, i, []) := e3
  rw [xCall_ap, e1]
  simp only [e3, e2, hF]
  show (match os[j]? with
    | some o' => RX.ok (.tmp o) (putP ρ i [] o')
    | none => .bad) = _
  rw [ho]
  simp only [putP_nil, hs]
theorem st_xcall {F : List O → RF} {args os : List O} {j : Nat} {o2 : O} {u : O} (h : Xa ρ fos args (some (j, i))) (hs : ρ[i]? = some (some u)) (hF : F args = .ok o os) (ho : os[j]? = some o2) : sDrop (xCall F fos) ρ = .ok .nx (ρ.set i (some o2)) := by
  rw [sDrop_ap, x_call h hs hF ho]; rfl
def Td (ρ0 ρ : FL.Env) (fos : FOs) (ds : List D) (ρ' : FL.Env) : Prop := ∃ os, fos ρ0 = .ok os ∧ toDats ρ os = some (ds, ρ')
theorem td_nil {ρ0 : FL.Env} : Td ρ0 ρ oNil [] ρ := ⟨[], rfl, rfl⟩
theorem td_t {ρ0 ρ' : FL.Env} (h1 : fe ρ0 = .ok (.tmp o)) (h2 : freeze o = some d) (h : Td ρ0 ρ fos ds ρ') : Td ρ0 ρ (oCons fe fos) (d :: ds) ρ' := by
  obtain ⟨os, e1, e2⟩ := h
  exact ⟨.tmp o :: os, by rw [oCons_ap, h1, Rs.bnd_ok, e1]; rfl, by rw [toDats_t, h2, e2]; rfl⟩
theorem td_p {ρ0 ρ' : FL.Env} {t : Tag} {l : List O} (h0 : eVar i ρ0 = .ok (.plc i [])) (h1 : ρ[i]? = some (some (.node t l))) (h2 : freeze (.node t l) = some d) (h : Td ρ0 (ρ.set i (some (.dat d))) fos ds ρ') : Td ρ0 ρ (oCons (eVar i) fos) (d :: ds) ρ' := by
  obtain ⟨os, e1, e2⟩ := h
  exact ⟨.plc i [] :: os, by rw [oCons_ap, h0, Rs.bnd_ok, e1]; rfl, by rw [toDats_p, h1]; simp only [h2, Option.bind_some, e2]; rfl⟩
theorem st_retx {kp : List Nat} {ρ' : FL.Env} (h : Td ρ ρ fos ds ρ') (hl : ds.length ≤ 100) : sRet kp (xTup fos) ρ = .ok (.rt (.dat (.tup ds))) ρ' := by
  obtain ⟨os, e1, e2⟩ := h
  rw [sRet_ap, xTup_ap, e1]
  simp only [e2]
  rw [if_pos (szl (by omega))]
  rfl
end
end FL
namespace FL
open PySem L2
noncomputable def popAtT {α : Type} (l : List α) (i : Int) : Option (α × List α) := (if okI i then seqIndex? i l.length else none).bind fun k => l[k]?.map fun x => (x, l.eraseIdx k)
noncomputable def insAtT {α : Type} (l : List α) (i : Int) (x : α) : Option (List α) := if l.length < 16777216 ∧ 0 ≤ i ∧ okI i then some (l.take i.toNat ++ [x] ++ l.drop i.toNat) else none
def on1T {α : Type} (l : List (List α)) (k : Int) (op : List α → Option (List α)) : Option (List (List α)) := (ixN l.length k).bind fun j => l[j]?.bind fun row => (op row).map fun r => l.set j r
section
variable {ρ : FL.Env} {i : Nat} {fe fb fc : FE} {fos : FOs} {k : Int} {o : O}
theorem mu_popAt {α : Type} {hh : α → O} {l : List α} {v : α × List α} (hv : popAtT l k = some v) : muPop1 .lst (l.map hh) [.dat (.int k)] = some (.lst, v.2.map hh, hh v.1) := by
  obtain ⟨j, e1, e2⟩ := ob hv
  obtain ⟨x, e3, rfl⟩ := Option.map_eq_some_iff.mp e2
  show (match (if okI k then seqIndex? k (l.map hh).length else none) with
    | some j => (match (l.map hh)[j]? with
      | some o => some (Tag.lst, (l.map hh).eraseIdx j, o)
      | none => none)
    | none => none) = _
  rw [List.length_map, e1]
  simp only [List.getElem?_map, e3, Option.map_some, map_erase]
theorem mu_pop {α : Type} {hh : α → O} {l : List α} {v : α × List α} (hv : popT l = some v) : muPop0 .lst (l.map hh) [] = some (.lst, v.2.map hh, hh v.1) := by
  obtain ⟨x, e1, rfl⟩ := Option.map_eq_some_iff.mp hv
  rw [muPop0_ap, List.length_map, List.getElem?_map, e1]
  simp only [Option.map_some, List.map_dropLast]
theorem mu_insAt {α : Type} {hh : α → O} {l l' : List α} {x : α} (hv : insAtT l k x = some l') : muIns .lst (l.map hh) [.dat (.int k), hh x] = some (.lst, l'.map hh, .dat .non) := by
  unfold insAtT at hv
  split at hv
  · next z =>
    cases hv
    show (if (l.map hh).length < sizeLine ∧ 0 ≤ k ∧ okI k then some (Tag.lst, (l.map hh).take k.toNat ++ [hh x] ++ (l.map hh).drop k.toNat, O.dat .non) else none) = _
    rw [if_pos ⟨szl_lt (by rw [List.length_map]; exact z.1), z.2⟩]
    simp only [List.map_append, List.map_take, List.map_drop]; rfl
  · cases hv
theorem st_popAt {α : Type} {hh : α → O} {l : List α} {v : α × List α} (hi : ρ[i]? = some (some (hL hh l))) (hk : fb ρ = .ok (.tmp (.dat (.int k)))) (hv : popAtT l k = some v) : sDrop (xMut "list" muPop1 (eVar i) (oCons fb oNil)) ρ = .ok .nx (ρ.set i (some (hL hh v.2))) :=
  st_mut (us := [.tmp (.dat (.int k))]) (args := []) (as := [.dat (.int k)]) (res := hh v.1) hi (by rw [oCons_ap, hk]; rfl) rfl (mu_popAt hv)
theorem st_pop {α : Type} {hh : α → O} {l : List α} {v : α × List α} (hi : ρ[i]? = some (some (hL hh l))) (hv : popT l = some v) : sDrop (xMut "list" muPop0 (eVar i) oNil) ρ = .ok .nx (ρ.set i (some (hL hh v.2))) :=
  st_mut (us := []) (args := []) (as := []) (res := hh v.1) hi rfl rfl (mu_pop hv)
theorem st_insAt {α : Type} {hh : α → O} {l l' : List α} {x : α} (hi : ρ[i]? = some (some (hL hh l))) (hk : fb ρ = .ok (.tmp (.dat (.int k)))) (ha : fe ρ = .ok (.tmp (hh x))) (hv : insAtT l k x = some l') : sDrop (xMut "list" muIns (eVar i) (oCons fb (oCons fe oNil))) ρ = .ok .nx (ρ.set i (some (hL hh l'))) :=
  st_mut (us := [.tmp (.dat (.int k)), .tmp (hh x)]) (args := []) (as := [.dat (.int k), hh x]) (res := .dat .non) hi (by rw [oCons_ap, hk, Rs.bnd_ok, oCons_ap, ha]; rfl) rfl (mu_insAt hv)
theorem st_mut1 {α : Type} {hh : α → O} {l l' : List (List α)} {op : List α → Option (List α)} {M : Mu} {us : List Opd} {as : List O} (hi : ρ[i]? = some (some (hL (hL hh) l))) (hk : rdE fb ρ = .ok (.int k)) (ha : fos ρ = .ok us) (ht : tmps us = some as) (hv : on1T l k op = some l')
    (hM : ∀ row row', op row = some row' → ∃ res, M .lst (row.map hh) as = some (.lst, row'.map hh, res)) : sDrop (xMut "list" M (eIx (eVar i) fb) fos) ρ = .ok .nx (ρ.set i (some (hL (hL hh) l'))) := by
  obtain ⟨j, e1, e2⟩ := ob hv
  obtain ⟨row, e3, e4⟩ := ob e2
  obtain ⟨r, e5, rfl⟩ := Option.map_eq_some_iff.mp e4
  obtain ⟨j2, f1, f2, f3⟩ := at_q hi hk (show atI l k = some row by unfold atI; rw [e1]; exact e3)
  rw [e1] at f1; cases f1
  have h' : ρ[i]? = some (some (.node .lst (l.map (hL hh)))) := hi
  obtain ⟨res, hm⟩ := hM row r e5
  rw [sDrop_ap]
  simp only [xMut_ap, f3, getP_1, h', List.getElem?_map, e3, Option.map_some]
  show ((if isT "list" (some (O.node .lst (row.map hh))) = true then (match fos ρ with
    | .ok os => (match tmps os with
      | some args => muRes M i [j] args ρ
      | none => .bad)
    | .exc c fs => .exc c fs ρ
    | .bad => .bad) else RX.bad).thn fun _ => sNx) = _
  rw [ha]
  simp only [isT_lst, ht, muRes_1, h', List.getElem?_map, e3, Option.map_some]
  show (match M .lst (row.map hh) as with
      | some (t', l', res) => RX.ok (.tmp res) (ρ.set i (some (.node .lst ((l.map (hL hh)).set j (.node t' l')))))
      | none => .bad).thn (fun _ => sNx) = _
  rw [hm]
  show RS.ok Fl.nx _ = _
  have e7 : (l.map (hL hh)).set j (.node .lst (r.map hh)) = (l.set j r).map (hL hh) := by
    show (l.map (hL hh)).set j (hL hh r) = _
    rw [← List.map_set]
  rw [e7]; rfl
theorem st_pop1At {α : Type} {hh : α → O} {l l' : List (List α)} {k2 : Int} (hi : ρ[i]? = some (some (hL (hL hh) l))) (hk : rdE fb ρ = .ok (.int k)) (hk2 : fc ρ = .ok (.tmp (.dat (.int k2)))) (hv : on1T l k (fun r => (popAtT r k2).map (·.2)) = some l') : sDrop (xMut "list" muPop1 (eIx (eVar i) fb) (oCons fc oNil)) ρ = .ok .nx (ρ.set i (some (hL (hL hh) l'))) :=
  st_mut1 (us := [.tmp (.dat (.int k2))]) (as := [.dat (.int k2)]) hi hk (by rw [oCons_ap, hk2]; rfl) rfl hv fun row row' e => by
    obtain ⟨v, e1, rfl⟩ := Option.map_eq_some_iff.mp e
    exact ⟨_, mu_popAt e1⟩
theorem st_pop1 {α : Type} {hh : α → O} {l l' : List (List α)} (hi : ρ[i]? = some (some (hL (hL hh) l))) (hk : rdE fb ρ = .ok (.int k)) (hv : on1T l k (fun r => (popT r).map (·.2)) = some l') : sDrop (xMut "list" muPop0 (eIx (eVar i) fb) oNil) ρ = .ok .nx (ρ.set i (some (hL (hL hh) l'))) :=
  st_mut1 (us := []) (as := []) hi hk rfl rfl hv fun row row' e => by
    obtain ⟨v, e1, rfl⟩ := Option.map_eq_some_iff.mp e
    exact ⟨_, mu_pop e1⟩
theorem st_ins1At {α : Type} {hh : α → O} {l l' : List (List α)} {k2 : Int} {x : α} (hi : ρ[i]? = some (some (hL (hL hh) l))) (hk : rdE fb ρ = .ok (.int k)) (hk2 : fc ρ = .ok (.tmp (.dat (.int k2)))) (ha : fe ρ = .ok (.tmp (hh x))) (hv : on1T l k (fun r => insAtT r k2 x) = some l') : sDrop (xMut "list" muIns (eIx (eVar i) fb) (oCons fc (oCons fe oNil))) ρ = .ok .nx (ρ.set i (some (hL (hL hh) l'))) :=
  st_mut1 (us := [.tmp (.dat (.int k2)), .tmp (hh x)]) (as := [.dat (.int k2), hh x]) hi hk (by rw [oCons_ap, hk2, Rs.bnd_ok, oCons_ap, ha]; rfl) rfl hv fun row row' e => ⟨_, mu_insAt e⟩
def zeqT (a b : Str) : Option Bool := if PyData.strOk a = true ∧ PyData.strOk b = true then some (decide (a = b)) else none
theorem eq_Z {a b : Str} {v : Bool} (h : zeqT a b = some v) : dEq (.str a) (.str b) = .ok (.dat (.bl v)) := by
  unfold zeqT at h
  split at h
  · next z =>
    cases h
    rw [dEq_ok (by rw [okE_str]; exact z.1) (by rw [okE_str]; exact z.2), eqD_str]
    congr 3
  · cases h
theorem ne_Z {a b : Str} {v : Bool} (h : zeqT a b = some v) : dNe (.str a) (.str b) = .ok (.dat (.bl (!v))) := by
  unfold zeqT at h
  split at h
  · next z =>
    cases h
    rw [dNe_ok (by rw [okE_str]; exact z.1) (by rw [okE_str]; exact z.2), eqD_str]
    congr 3
  · cases h
theorem zeqT_ok {a b : Str} (h1 : PyData.strOk a = true) (h2 : PyData.strOk b = true) : zeqT a b = some (decide (a = b)) := if_pos ⟨h1, h2⟩
def B2 (ρ : FL.Env) (fe : FE) (d : D) : Prop := (rdE fe ρ = .bad ∨ rdE fe ρ = .ok d) ∧ rdE fe (frzEs ρ) = .ok d
theorem frz_at {x : Option O} (h : ρ[i]? = some x) : (frzEs ρ)[i]? = some (fz1 x) := by unfold frzEs; rw [List.getElem?_map, h]; rfl
theorem b2_d {d : D} (h : ρ[i]? = some (some (.dat d))) : B2 ρ (eVar i) d := ⟨.inr (r_d (l_var h)), r_d (l_var (frz_at h))⟩
theorem b2_k {d : D} : B2 ρ (eK d) d := ⟨.inr (r_d l_k), r_d l_k⟩
theorem b2_1 {α : Type} {c : α → D} {l : List α} (h : ρ[i]? = some (some (hL (hD c) l))) : B2 ρ (eVar i) (cL c l) := by
  refine ⟨.inr (r_p h), r_d (l_var ?_)⟩
  rw [frz_at h, fz1_own (hh := hL (hD c))]
theorem b2_2 {α : Type} {hh : α → O} {c : α → D} [z : Fz hh c] {l : List (List α)} (h : ρ[i]? = some (some (hL (hL hh) l))) : B2 ρ (eVar i) (cL (cL c) l) := by
  have h' : ρ[i]? = some (some (.node .lst (l.map (hL hh)))) := h
  refine ⟨?_, r_d (l_var ?_)⟩
  · cases l with
    | nil => right; rw [rdE_ap, l_own h', Rs.bnd_ok, rd_plc, h']; rfl
    | cons x l => left; rw [rdE_ap, l_own h', Rs.bnd_ok, rd_plc, h']; rfl
  · rw [frz_at h, fz1_own (hh := hL (hL hh))]
theorem lq_try {o : O} (h1 : fe ρ = .bad ∨ fe ρ = .ok (.tmp o)) (h2 : fe (frzEs ρ) = .ok (.tmp o)) (hc : cleanO o = true) : eTry fe ρ = .ok (.tmp o) := by
  rcases h1 with h1 | h1
  · rw [eTry_ap, h1, h2]
    show (if cleanO o = true then _ else _) = _
    rw [if_pos hc]
  · exact l_try h1
theorem lq_op {q : D → D → Rs O} {x y : D} {o : O} (ha : B2 ρ fb x) (hb : B2 ρ fc y) (h : q x y = .ok o) (hc : cleanO o = true) : eTry (eOp q fb fc) ρ = .ok (.tmp o) := by
  refine lq_try ?_ (l_op ha.2 hb.2 h) hc
  rcases ha.1 with h1 | h1
  · left; rw [eOp_ap, h1]; rfl
  · rcases hb.1 with h2 | h2
    · left; rw [eOp_ap, h1, Rs.bnd_ok, h2]; rfl
    · right; exact l_op h1 h2 h
theorem lq_fn {q : List D → Rs O} {x : D} {o : O} (ha : B2 ρ fb x) (h : q [x] = .ok o) (hc : cleanO o = true) : eTry (eFn q (rCons fb aNil)) ρ = .ok (.tmp o) := by
  refine lq_try ?_ (l_fn (FL.r_cons ha.2 a_nil) h) hc
  rcases ha.1 with h1 | h1
  · left; rw [eFn_ap, rCons_ap, h1]; rfl
  · right; exact l_fn (FL.r_cons h1 a_nil) h
theorem lq_un {q : D → Rs O} {x : D} {o : O} (ha : B2 ρ fb x) (h : q x = .ok o) (hc : cleanO o = true) : eTry (eUn q fb) ρ = .ok (.tmp o) := by
  refine lq_try ?_ (l_un ha.2 h) hc
  rcases ha.1 with h1 | h1
  · left; rw [eUn_ap, h1]; rfl
  · right; exact l_un h1 h
theorem st_setmut {α : Type} {hh : α → O} {c : α → D} [z : Fz hh c] {l l' : List α} {v : α} {M : Mu} {us : List Opd} {as : List O} {j : Nat} (hi : ρ[i]? = some (some (hL hh l))) (ha : fos ρ = .ok us) (ht : tmps us = some as) (hM : M .lst (l.map hh) as = some (.lst, l'.map hh, hh v)) : sSet j (xMut "list" M (eVar i) fos) ρ = .ok .nx ((ρ.set i (some (hL hh l'))).set j (some (.dat (c v)))) := by
  have hi' : ρ[i]? = some (some (.node .lst (l.map hh))) := hi
  rw [sSet_ap]
  simp only [xMut_ap, eVar_ap, hi', getP_nil, Option.join_some, isT_lst, ha, ht, muRes_nil, hM]
  show toRS (toDat _ (.tmp (hh v))) _ = _
  rw [toDat_t, z.fz]
  rfl
theorem so_hx {σ : Type} {t : Option σ} {F : FS} {kk : FS} {envH : σ → FL.Env} {s : σ} {i : Nat} (h : So (fun s r => r = .ok .nx (envH s)) t (sSeq F sNx ρ)) (e : t = some s) : dropS i ((some F).getD kk ρ) = .ok .nx ((envH s).set i none) := by
  rw [Option.getD_some, so_top h s e]; rfl
theorem so_hy {σ : Type} {t : Option σ} {F : FS} {envH : σ → FL.Env} {s : σ} (h : So (fun s r => r = .ok .nx (envH s)) t (sSeq F sNx ρ)) (e : t = some s) : F ρ = .ok .nx (envH s) := so_top h s e
end
section
variable {α : Type}
theorem popAtT_n {l : List α} {k : Nat} (h : k < l.length) (h2 : l.length < 16777216) : popAtT l (k : Int) = some (l[k], l.eraseIdx k) := by
  unfold popAtT
  have hk : okI (k : Int) := ⟨by omega, by omega⟩
  rw [if_pos hk]
  have e : seqIndex? (k : Int) l.length = some k := by
    unfold seqIndex?
    have h0 : ¬ (k : Int) < 0 := by omega
    simp only [h0, if_false]
    simp [h]
  rw [e, Option.bind_some, List.getElem?_eq_getElem h]; rfl
theorem insAtT_n {l : List α} {k : Nat} {x : α} (h : l.length < 16777216) (h2 : k < 1000000) : insAtT l (k : Int) x = some (l.take k ++ [x] ++ l.drop k) := by
  unfold insAtT
  have hk : okI (k : Int) := ⟨by omega, by omega⟩
  rw [if_pos ⟨h, by omega, hk⟩, Int.toNat_natCast]
theorem popT_ok {l : List α} {x : α} : popT (l ++ [x]) = some (x, l) := by
  unfold popT
  simp
theorem on1T_n {l : List (List α)} {k : Nat} {op : List α → Option (List α)} {r : List α} (h : k < l.length) (e : op l[k] = some r) : on1T l (k : Int) op = some (l.set k r) := by
  unfold on1T
  have e1 : ixN l.length (k : Int) = some k := by
    unfold ixN
    rw [if_pos (by omega), if_pos (by omega), Int.toNat_natCast]
  rw [e1, Option.bind_some, List.getElem?_eq_getElem h, Option.bind_some, e]; rfl
end
end FL
namespace FL
open PySem L2
theorem isT_Og {α : Type} {c : α → D} {t : String} {x : Option α} (h : ∀ v, dIsT t (c v) = .ok (.dat (.bl true))) (h0 : dIsT t .non = .ok (.dat (.bl false))) : dIsT t (cO c x) = .ok (.dat (.bl x.isSome)) := by
  cases x with
  | none => exact h0
  | some x => exact h x
section
variable {ρ ρ1 : FL.Env} {fe fb : FE} {fa : FA} {α : Type} {c : α → D}
theorem i_P2 {x : α × α} (h : dE fe ρ = .ok (cP c c x)) : iSeq (dE fe) ρ = .ok ([x.1, x.2].map c) := i_T (l := [x.1, x.2]) h
theorem i_P3 {x : α × α × α} (h : dE fe ρ = .ok (cP3 c c c x)) : iSeq (dE fe) ρ = .ok ([x.1, x.2.1, x.2.2].map c) := i_T (l := [x.1, x.2.1, x.2.2]) h
theorem ir_P2 {x : α × α} (h : rdE fe ρ = .ok (cP c c x)) : iSeq (rdE fe) ρ = .ok ([x.1, x.2].map c) := ir_T (l := [x.1, x.2]) h
theorem ir_P3 {x : α × α × α} (h : rdE fe ρ = .ok (cP3 c c c x)) : iSeq (rdE fe) ρ = .ok ([x.1, x.2.1, x.2.2].map c) := ir_T (l := [x.1, x.2.1, x.2.2]) h
end
end FL
namespace FL
open PySem L2 PySem.W
open PyProof.Rows (itemOrd listOrd)
abbrev lxL := PyProof.Rows.lexLt itemOrd
class Od {α : Type} [DecidableEq α] (c : α → D) (lt : outParam (α → α → Bool)) : Prop where
  tk : ∀ x y s t, lxL (keyToks (pyD (c x)) ++ s) (keyToks (pyD (c y)) ++ t) = (lt x y || (decide (x = y) && lxL s t))
  alk : ∀ x y, alike (pyD (c x)) (pyD (c y)) = true
  pl : ∀ x, plainD (c x) = true
  nn : ∀ x, pyD (c x) ≠ .none
def ltI (a b : Int) : Bool := decide (a < b)
def lt2 {α β : Type} [DecidableEq α] (la : α → α → Bool) (lb : β → β → Bool) (x y : α × β) : Bool := la x.1 y.1 || (decide (x.1 = y.1) && lb x.2 y.2)
def lt3 {α β γ : Type} [DecidableEq α] [DecidableEq β] (la : α → α → Bool) (lb : β → β → Bool) (lc : γ → γ → Bool) (x y : α × β × γ) : Bool := la x.1 y.1 || (decide (x.1 = y.1) && (lb x.2.1 y.2.1 || (decide (x.2.1 = y.2.1) && lc x.2.2 y.2.2)))
def ltL {α : Type} [DecidableEq α] (la : α → α → Bool) : List α → List α → Bool
  | [], [] => false
  | [], _ :: _ => true
  | _ :: _, [] => false
  | x :: a, y :: b => la x y || (decide (x = y) && ltL la a b)
theorem lx_cons (x y : Int ⊕ List Nat) (r t : List (Int ⊕ List Nat)) : lxL (x :: r) (y :: t) = (itemOrd.blt x y || (!itemOrd.blt y x && lxL r t)) := rfl
theorem lx_int (a b : Int) (r t : List (Int ⊕ List Nat)) : lxL (.inl a :: r) (.inl b :: t) = (decide (a < b) || (decide (a = b) && lxL r t)) := by
  rw [lx_cons, blt_int, blt_int]
  by_cases h1 : a < b
  · simp [h1]
  · by_cases h2 : b < a
    · have h3 : ¬ a = b := by omega
      simp [h1, h2, h3]
    · have h3 : a = b := by omega
      simp [h3]
theorem lx_same (a : Int) (r t : List (Int ⊕ List Nat)) : lxL (.inl a :: r) (.inl a :: t) = lxL r t := by rw [lx_int]; simp
instance odI : Od D.int ltI := ⟨fun x y s t => lx_int x y s t, fun _ _ => rfl, fun _ => rfl, fun _ h => by cases h⟩
section
variable {α β γ : Type} [DecidableEq α] [DecidableEq β] [DecidableEq γ] {a : α → D} {b : β → D} {c : γ → D} {la : α → α → Bool} {lb : β → β → Bool} {lc : γ → γ → Bool}
theorem bb (p q r s : Bool) : (p || (q && (r || s))) = ((p || (q && r)) || (q && s)) := by cases p <;> cases q <;> cases r <;> cases s <;> rfl
instance odP [g : Od a la] [k : Od b lb] : Od (cP a b) (lt2 la lb) :=
  ⟨fun x y s t => by
    show lxL ((.inl 1 :: (keyToks (pyD (a x.1)) ++ .inl 1 :: (keyToks (pyD (b x.2)) ++ [.inl 0]))) ++ s) ((.inl 1 :: (keyToks (pyD (a y.1)) ++ .inl 1 :: (keyToks (pyD (b y.2)) ++ [.inl 0]))) ++ t) = _
    simp only [List.cons_append, List.append_assoc, List.nil_append]
    rw [lx_same, g.tk, lx_same, k.tk, lx_same]
    unfold lt2
    have e : decide (x = y) = (decide (x.1 = y.1) && decide (x.2 = y.2)) := by rw [← Bool.decide_and, decide_eq_decide, Prod.ext_iff]
    rw [e]
    cases la x.1 y.1 <;> cases decide (x.1 = y.1) <;> cases lb x.2 y.2 <;> cases decide (x.2 = y.2) <;> cases lxL s t <;> rfl,
  fun x y => by
    show (alike (pyD (a x.1)) (pyD (a y.1)) && (alike (pyD (b x.2)) (pyD (b y.2)) && true)) = true
    rw [g.alk, k.alk]; rfl,
  fun x => by
    show (plainD (a x.1) && (plainD (b x.2) && true)) = true
    rw [g.pl, k.pl]; rfl, fun x h => by cases h⟩
instance odP3 [g : Od a la] [k : Od b lb] [m : Od c lc] : Od (cP3 a b c) (lt3 la lb lc) :=
  ⟨fun x y s t => by
    show lxL ((.inl 1 :: (keyToks (pyD (a x.1)) ++ .inl 1 :: (keyToks (pyD (b x.2.1)) ++ .inl 1 :: (keyToks (pyD (c x.2.2)) ++ [.inl 0])))) ++ s) ((.inl 1 :: (keyToks (pyD (a y.1)) ++ .inl 1 :: (keyToks (pyD (b y.2.1)) ++ .inl 1 :: (keyToks (pyD (c y.2.2)) ++ [.inl 0])))) ++ t) = _
    simp only [List.cons_append, List.append_assoc, List.nil_append]
    rw [lx_same, g.tk, lx_same, k.tk, lx_same, m.tk, lx_same]
    unfold lt3
    have e : decide (x = y) = (decide (x.1 = y.1) && (decide (x.2.1 = y.2.1) && decide (x.2.2 = y.2.2))) := by rw [← Bool.decide_and, ← Bool.decide_and, decide_eq_decide, Prod.ext_iff, Prod.ext_iff]
    rw [e]
    cases la x.1 y.1 <;> cases decide (x.1 = y.1) <;> cases lb x.2.1 y.2.1 <;> cases decide (x.2.1 = y.2.1) <;> cases lc x.2.2 y.2.2 <;> cases decide (x.2.2 = y.2.2) <;> cases lxL s t <;> rfl,
  fun x y => by
    show (alike (pyD (a x.1)) (pyD (a y.1)) && (alike (pyD (b x.2.1)) (pyD (b y.2.1)) && (alike (pyD (c x.2.2)) (pyD (c y.2.2)) && true))) = true
    rw [g.alk, k.alk, m.alk]; rfl,
  fun x => by
    show (plainD (a x.1) && (plainD (b x.2.1) && (plainD (c x.2.2) && true))) = true
    rw [g.pl, k.pl, m.pl]; rfl, fun x h => by cases h⟩
theorem tk_list [g : Od a la] : ∀ (x y : List α) (s t : List (Int ⊕ List Nat)), lxL (keyToksAll (pyDs (x.map a)) ++ s) (keyToksAll (pyDs (y.map a)) ++ t) = (ltL la x y || (decide (x = y) && lxL s t))
  | [], [], s, t => by
    show lxL (.inl 0 :: s) (.inl 0 :: t) = _
    rw [lx_same]; simp [ltL]
  | [], y :: yl, s, t => by
    show lxL (.inl 0 :: s) (.inl 1 :: _) = _
    rw [lx_int]; simp [ltL]
  | x :: xl, [], s, t => by
    show lxL (.inl 1 :: _) (.inl 0 :: t) = _
    rw [lx_int]; simp [ltL]
  | x :: xl, y :: yl, s, t => by
    show lxL ((.inl 1 :: (keyToks (pyD (a x)) ++ keyToksAll (pyDs (xl.map a)))) ++ s) ((.inl 1 :: (keyToks (pyD (a y)) ++ keyToksAll (pyDs (yl.map a)))) ++ t) = _
    simp only [List.cons_append, List.append_assoc]
    rw [lx_same, g.tk, tk_list xl yl]
    have e : decide (x :: xl = y :: yl) = (decide (x = y) && decide (xl = yl)) := by rw [← Bool.decide_and, decide_eq_decide, List.cons.injEq]
    rw [e]
    show _ = ((la x y || (decide (x = y) && ltL la xl yl)) || _)
    cases la x y <;> cases decide (x = y) <;> cases ltL la xl yl <;> cases decide (xl = yl) <;> cases lxL s t <;> rfl
theorem alk_list [g : Od a la] : ∀ (x y : List α), alikeAll (pyDs (x.map a)) (pyDs (y.map a)) = true
  | [], _ => by cases ‹List α› <;> rfl
  | _ :: _, [] => rfl
  | x :: xl, y :: yl => by
    show (alike (pyD (a x)) (pyD (a y)) && alikeAll (pyDs (xl.map a)) (pyDs (yl.map a))) = true
    rw [g.alk, alk_list xl yl]; rfl
theorem pl_list [g : Od a la] : ∀ (x : List α), plainDs (x.map a) = true
  | [] => rfl
  | x :: xl => by
    show (plainD (a x) && plainDs (xl.map a)) = true
    rw [g.pl, pl_list xl]; rfl
instance odT [g : Od a la] : Od (cT a) (ltL la) := ⟨fun x y s t => tk_list x y s t, fun x y => alk_list x y, fun x => pl_list x, fun x h => by cases h⟩
theorem od_lt [g : Od a la] (x y : α) : dataLt (pyD (a x)) (pyD (a y)) = la x y := by
  have := g.tk x y [] []
  rw [List.append_nil, List.append_nil] at this
  show lxL _ _ = _
  rw [this]
  have : lxL [] [] = false := rfl
  rw [this, Bool.and_false, Bool.or_false]
theorem ltW_L : ∀ x y : List Int, ltL ltI x y = ltW x y
  | [], [] => rfl
  | [], _ :: _ => rfl
  | _ :: _, [] => rfl
  | x :: a, y :: b => by
    show (decide (x < y) || (decide (x = y) && ltL ltI a b)) = HT.lexLt (x :: a) (y :: b)
    rw [HT.lexLt_cons, ltW_L a b]
    by_cases h : x = y
    · subst h; simp [ltW]
    · simp [h]
theorem okE8 {n : Nat} [k : Gd a n] (hn : n ≤ 8 := by decide) (x : α) : okE 8 (a x) = true := okE_mono _ hn (k.ok x)
theorem od_ok {n : Nat} [g : Od a la] [k : Gd a n] (hn : n ≤ 8) (x y : α) : okCmp (a x) (a y) := ⟨okE_mono _ hn (k.ok x), okE_mono _ hn (k.ok y), g.alk x y, g.nn x⟩
theorem od_Lt {n : Nat} [g : Od a la] [k : Gd a n] (hn : n ≤ 8) {x y : α} (h : dLt (a x) (a y) = cmpG dataLt (a x) (a y)) : dLt (a x) (a y) = .ok (.dat (.bl (la x y))) := by
  rw [h]; unfold cmpG; rw [if_pos (od_ok hn x y)]; simp only [od_lt]
theorem od_Le {n : Nat} [g : Od a la] [k : Gd a n] (hn : n ≤ 8) {x y : α} (h : dLe (a x) (a y) = cmpG (fun x y => !dataLt y x) (a x) (a y)) : dLe (a x) (a y) = .ok (.dat (.bl (!la y x))) := by
  rw [h]; unfold cmpG; rw [if_pos (od_ok hn x y)]; simp only [od_lt]
theorem od_Gt {n : Nat} [g : Od a la] [k : Gd a n] (hn : n ≤ 8) {x y : α} (h : dGt (a x) (a y) = cmpG (fun x y => dataLt y x) (a x) (a y)) : dGt (a x) (a y) = .ok (.dat (.bl (la y x))) := by
  rw [h]; unfold cmpG; rw [if_pos (od_ok hn x y)]; simp only [od_lt]
theorem od_Ge {n : Nat} [g : Od a la] [k : Gd a n] (hn : n ≤ 8) {x y : α} (h : dGe (a x) (a y) = cmpG (fun x y => !dataLt x y) (a x) (a y)) : dGe (a x) (a y) = .ok (.dat (.bl (!la x y))) := by
  rw [h]; unfold cmpG; rw [if_pos (od_ok hn x y)]; simp only [od_lt]
def minO (lt : α → α → Bool) (x : α) (l : List α) : α := l.foldl (fun m y => if lt y m = true then y else m) x
def minOT (lt : α → α → Bool) : List α → Option α
  | [] => none
  | x :: l => some (minO lt x l)
def maxO (lt : α → α → Bool) (x : α) (l : List α) : α := l.foldl (fun m y => if lt m y = true then y else m) x
def maxOT (lt : α → α → Bool) : List α → Option α
  | [] => none
  | x :: l => some (maxO lt x l)
theorem minDD_o [g : Od a la] (x : α) (l : List α) : minDD (a x) (l.map a) = a (minO la x l) := by
  unfold minDD minO
  induction l generalizing x with
  | nil => rfl
  | cons y l ih =>
    rw [List.map_cons, List.foldl_cons, List.foldl_cons, od_lt]
    by_cases h : la y x = true
    · rw [if_pos h, if_pos h, ih]
    · rw [if_neg h, if_neg h, ih]
theorem maxDD_o [g : Od a la] (x : α) (l : List α) : maxDD (a x) (l.map a) = a (maxO la x l) := by
  unfold maxDD maxO
  induction l generalizing x with
  | nil => rfl
  | cons y l ih =>
    rw [List.map_cons, List.foldl_cons, List.foldl_cons, od_lt]
    by_cases h : la x y = true
    · rw [if_pos h, if_pos h, ih]
    · rw [if_neg h, if_neg h, ih]
theorem okMin_o {n : Nat} [g : Od a la] [k : Gd a n] (hn : n ≤ 8) (l : List α) : okMin (l.map a) := by
  refine ⟨?_, pl_list l, fun d hd d' hd' => ?_, fun d hd e => ?_⟩
  · show okEs 8 (l.map a) = true
    exact okEs_all fun x _ => okE_mono _ hn (k.ok x)
  · rw [List.map_map] at hd hd'
    obtain ⟨y, _, rfl⟩ := List.mem_map.mp hd
    obtain ⟨y', _, rfl⟩ := List.mem_map.mp hd'
    exact g.alk y y'
  · rw [List.map_map] at hd
    obtain ⟨y, hy, rfl⟩ := List.mem_map.mp hd
    exact g.nn y e
theorem minL_o {n : Nat} [g : Od a la] [k : Gd a n] (hn : n ≤ 8) (hi : ∀ x l, intsOf (a x :: l) = none) {l : List α} {v : α} (h : minOT la l = some v) : dMin2 [cL a l] = .ok (.dat (a v)) := by
  cases l with
  | nil => cases h
  | cons x l =>
    cases h
    have h0 : (lOf (.lst ((x :: l).map a))).bind intsOf = none := hi x (l.map a)
    have h1 : seqI (.lst ((x :: l).map a)) = some (a x :: l.map a) := rfl
    have ok : okMin (a x :: l.map a) := okMin_o hn (x :: l)
    show dMin2 [.lst ((x :: l).map a)] = _
    unfold dMin2
    simp only [h0, h1]
    rw [if_pos ok, minDD_o]
theorem maxL_o {n : Nat} [g : Od a la] [k : Gd a n] (hn : n ≤ 8) (hi : ∀ x l, intsOf (a x :: l) = none) {l : List α} {v : α} (h : maxOT la l = some v) : dMax2 [cL a l] = .ok (.dat (a v)) := by
  cases l with
  | nil => cases h
  | cons x l =>
    cases h
    have h0 : (lOf (.lst ((x :: l).map a))).bind intsOf = none := hi x (l.map a)
    have h1 : seqI (.lst ((x :: l).map a)) = some (a x :: l.map a) := rfl
    have ok : okMin (a x :: l.map a) := okMin_o hn (x :: l)
    show dMax2 [.lst ((x :: l).map a)] = _
    unfold dMax2
    simp only [h0, h1]
    rw [if_pos ok, maxDD_o]
def leO (lt : α → α → Bool) (x y : α) : Bool := !lt y x
def sortO (lt : α → α → Bool) (l : List α) : List α := l.mergeSort (leO lt)
theorem sort_o {n : Nat} [g : Od a la] [k : Gd a n] (hn : n ≤ 8) (hi : ∀ x l, intsOf (a x :: l) = none) (hne : ∀ x, ∃ d ds, pyD (a x) = .tuple (d :: ds)) (l : List α) : dSorted2 [cL a l] = .ok (hL (hD a) (sortO la l)) := by
  cases l with
  | nil =>
    have h0 : iOfs (.lst []) = some [] := rfl
    show dSorted2 [.lst []] = _
    unfold dSorted2
    simp [h0, sortI, sortO]
    rfl
  | cons x l =>
    have h0 : iOfs (.lst ((x :: l).map a)) = none := hi x (l.map a)
    have h1 : lOf (.lst ((x :: l).map a)) = some ((x :: l).map a) := rfl
    have ok : okSort ((x :: l).map a) := by
      refine ⟨?_, fun d hd d' hd' => ?_, .inl (.inl fun d hd => ?_)⟩
      · show okEs 8 ((x :: l).map a) = true
        exact okEs_all fun x _ => okE_mono _ hn (k.ok x)
      · rw [List.map_map] at hd hd'
        obtain ⟨y, _, rfl⟩ := List.mem_map.mp hd
        obtain ⟨y', _, rfl⟩ := List.mem_map.mp hd'
        exact g.alk y y'
      · rw [List.map_map] at hd
        obtain ⟨y, _, rfl⟩ := List.mem_map.mp hd
        obtain ⟨d, ds, e⟩ := hne y
        exact ⟨_, _, e⟩
    show dSorted2 [.lst ((x :: l).map a)] = _
    unfold dSorted2
    simp only [h0, h1]
    rw [if_pos ok]
    have le : ∀ x y, dataLe false pyD (a x) (a y) = leO la x y := fun x y => by unfold leO; rw [← od_lt (a := a)]; rfl
    show Rs.ok (O.node .lst _) = .ok (.node .lst _)
    congr 2
    unfold sortO
    rw [← List.map_mergeSort (r := leO la) (s := dataLe false pyD) (f := a) (fun x _ y _ => (le x y).symm), List.map_map]
    rfl
def sortWT (l : List (List Int)) : Option (List (List Int)) := if (∀ w ∈ l, w ≠ []) ∨ l.length ≤ 1 then some (sortW l) else none
theorem sort_wT {l v : List (List Int)} (h : sortWT l = some v) : dSorted2 [cL (cT D.int) l] = .ok (hL (hD (cT D.int)) v) := by
  unfold sortWT at h
  split at h
  · next z =>
    cases h
    have := sort_words l z
    exact this
  · cases h
theorem sort_iT (l : List Int) : dSorted2 [cL D.int l] = .ok (hL (hD D.int) (sortI l)) := by
  show dSorted2 [.lst (l.map D.int)] = _
  have h0 : iOfs (.lst (l.map D.int)) = some l := intsOf_map l
  unfold dSorted2
  simp only [h0]
  rw [List.map_map]; rfl
end
section
variable {ρ ρ1 : FL.Env} {i j : Nat} {x o : O} {fe fa fb fc fo fi : FE} {fos : FOs} {os : List O} {k : Int}
def Ol (ρ : FL.Env) (fos : FOs) (os : List O) : Prop := ∃ us, fos ρ = .ok us ∧ tmps us = some os
theorem ol_nil : Ol ρ oNil [] := ⟨[], rfl, rfl⟩
theorem ol_c (h : fe ρ = .ok (.tmp o)) (t : Ol ρ fos os) : Ol ρ (oCons fe fos) (o :: os) := by
  obtain ⟨us, e1, e2⟩ := t
  refine ⟨.tmp o :: us, by rw [oCons_ap, h, Rs.bnd_ok, e1]; rfl, ?_⟩
  show (tmps us).map (o :: ·) = _
  rw [e2]; rfl
theorem l_lstO {α : Type} {hh : α → O} (l : List α) (h : Ol ρ fos (l.map hh)) (hl : l.length ≤ 100) : eLstO fos ρ = .ok (.tmp (hL hh l)) := by
  obtain ⟨us, e1, e2⟩ := h
  rw [eLstO_ap, e1, Rs.bnd_ok, e2]
  dsimp only
  rw [if_pos (szl (by rw [List.length_map]; omega))]
  rfl
theorem st_mov {M : Mu} {r : RS} (hj : ρ[j]? = some (some x)) (h : sSto M (lft fun _ => .ok (.tmp x)) fo fi (ρ.set j none) = r) : sSto M (xMov j) fo fi ρ = r := by
  rw [← h, sSto_ap, sSto_ap, xMov_at hj]
  rfl
theorem at_qK {α : Type} {hh : α → O} {l : List (Int × List α)} {row : List α} (h1 : ρ[i]? = some (some (hK (hL hh) l))) (h2 : rdE fb ρ = .ok (.int k)) (h3 : lookT l k = some row) : ∃ j, l[j]? = some (k, row) ∧ eIx (eVar i) fb ρ = .ok (.plc i [j]) := by
  have h' : ρ[i]? = some (some (.node (.dct (l.map fun p => keyI p.1)) (l.map fun p => hL hh p.2))) := h1
  obtain ⟨j, e1, e2⟩ := ob h3
  obtain ⟨v, e3, e4⟩ := idxK_at e1
  rw [h3] at e4; cases e4
  refine ⟨j, e3, ?_⟩
  rw [eIx_ap, l_own h', Rs.bnd_ok]
  simp only [h2, Rs.bnd_ok, getP_nil, h', Option.join_some]
  unfold plcIx
  rw [kid_K, e1]
  simp only [List.getElem?_map, e3, Option.map_some]
  rfl
theorem l_ixqK {α : Type} {c : α → D} {l : List (Int × List α)} {row : List α} {k2 : Int} {v : α} (h1 : ρ[i]? = some (some (hK (hL (hD c)) l))) (h2 : rdE fb ρ = .ok (.int k)) (h3 : lookT l k = some row) (h4 : rdE fc ρ = .ok (.int k2)) (h5 : atI row k2 = some v) : eIx (eIx (eVar i) fb) fc ρ = .ok (.tmp (.dat (c v))) := by
  obtain ⟨j, e2, e3⟩ := at_qK h1 h2 h3
  have h' : ρ[i]? = some (some (.node (.dct (l.map fun p => keyI p.1)) (l.map fun p => hL (hD c) p.2))) := h1
  rw [eIx_ap, e3, Rs.bnd_ok]
  simp only [h4, Rs.bnd_ok, getP_1, h', List.getElem?_map, e2, Option.map_some]
  show plcIx i [j] .lst (row.map (hD c)) (.int k2) = _
  exact plcIx_lst (by rw [atI_map, h5]; rfl)
end
end FL
namespace FL
open PySem L2
section
variable {ρ ρ1 : FL.Env} {i j : Nat} {fe fa fb fc fd : FE} {fos : FOs} {k k1 k2 k3 : Int}
def on2T {α : Type} (l : List (List (List α))) (k1 k2 : Int) (op : List α → Option (List α)) : Option (List (List (List α))) := on1T l k1 fun m => on1T m k2 op
theorem at_q2 {α : Type} {hh : α → O} {l : List (List (List α))} {m : List (List α)} {row : List α} (h1 : ρ[i]? = some (some (hL (hL (hL hh)) l))) (hk1 : rdE fa ρ = .ok (.int k1)) (hk2 : rdE fb ρ = .ok (.int k2)) (h3 : atI l k1 = some m) (h4 : atI m k2 = some row) :
    ∃ j1 j2, ixN l.length k1 = some j1 ∧ l[j1]? = some m ∧ ixN m.length k2 = some j2 ∧ m[j2]? = some row ∧ eIx (eIx (eVar i) fa) fb ρ = .ok (.plc i [j1, j2]) := by
  obtain ⟨j1, e1, e2, e3⟩ := at_q h1 hk1 h3
  obtain ⟨j2, f1, f2⟩ := ob h4
  refine ⟨j1, j2, e1, e2, f1, f2, ?_⟩
  have h' : ρ[i]? = some (some (.node .lst (l.map (hL (hL hh))))) := h1
  rw [eIx_ap, e3, Rs.bnd_ok]
  simp only [hk2, Rs.bnd_ok, getP_1, h', List.getElem?_map, e2, Option.map_some]
  show plcIx i [j1] .lst (m.map (hL hh)) (.int k2) = _
  have e4 : kidIx .lst (m.map (hL hh)).length (.int k2) = some j2 := by rw [List.length_map]; exact f1
  unfold plcIx
  rw [e4]
  simp only [List.getElem?_map, f2, Option.map_some]
  rfl
theorem getP_2 {α : Type} {hh : α → O} {l : List (List (List α))} {m : List (List α)} {row : List α} {j1 j2 : Nat} (h1 : ρ[i]? = some (some (hL (hL (hL hh)) l))) (e2 : l[j1]? = some m) (f2 : m[j2]? = some row) : getP ρ i [j1, j2] = some (hL hh row) := by
  have h' : ρ[i]? = some (some (.node .lst (l.map (hL (hL hh))))) := h1
  unfold getP
  rw [h']
  show O.at (.node .lst (l.map (hL (hL hh)))) [j1, j2] = _
  have a1 : (l.map (hL (hL hh)))[j1]? = some (hL (hL hh) m) := by rw [List.getElem?_map, e2]; rfl
  have a2 : (m.map (hL hh))[j2]? = some (hL hh row) := by rw [List.getElem?_map, f2]; rfl
  show (match (l.map (hL (hL hh)))[j1]? with
    | some o => o.at [j2]
    | none => none) = _
  rw [a1]
  show (match (m.map (hL hh))[j2]? with
    | some o => o.at []
    | none => none) = _
  rw [a2]
  rfl
theorem putP_2 {α : Type} {hh : α → O} {l : List (List (List α))} {m : List (List α)} {row row' : List α} {j1 j2 : Nat} (h1 : ρ[i]? = some (some (hL (hL (hL hh)) l))) (e2 : l[j1]? = some m) (f2 : m[j2]? = some row) :
    putP ρ i [j1, j2] (.node .lst (row'.map hh)) = ρ.set i (some (hL (hL (hL hh)) (l.set j1 (m.set j2 row')))) := by
  have h' : ρ[i]? = some (some (.node .lst (l.map (hL (hL hh))))) := h1
  have a1 : (l.map (hL (hL hh)))[j1]? = some (.node .lst (m.map (hL hh))) := by rw [List.getElem?_map, e2]; rfl
  have a2 : (m.map (hL hh))[j2]? = some (hL hh row) := by rw [List.getElem?_map, f2]; rfl
  unfold putP
  rw [h']
  dsimp only
  rw [O.put_cons, a1]
  dsimp only
  rw [O.put_cons, a2]
  have e7 : (m.map (hL hh)).set j2 (.node .lst (row'.map hh)) = (m.set j2 row').map (hL hh) := by
    show (m.map (hL hh)).set j2 (hL hh row') = _
    rw [← List.map_set]
  have e8 : (l.map (hL (hL hh))).set j1 (.node .lst ((m.set j2 row').map (hL hh))) = (l.set j1 (m.set j2 row')).map (hL (hL hh)) := by
    show (l.map (hL (hL hh))).set j1 (hL (hL hh) (m.set j2 row')) = _
    rw [← List.map_set]
  show ρ.set i (some (.node .lst ((l.map (hL (hL hh))).set j1 (.node .lst ((m.map (hL hh)).set j2 (.node .lst (row'.map hh))))))) = _
  rw [e7, e8]
  rfl
theorem muRes_2 {α : Type} {hh : α → O} {l : List (List (List α))} {m : List (List α)} {row row' : List α} {j1 j2 : Nat} {M : Mu} {as : List O} {res : O} (h1 : ρ[i]? = some (some (hL (hL (hL hh)) l))) (e2 : l[j1]? = some m) (f2 : m[j2]? = some row)
    (hM : M .lst (row.map hh) as = some (.lst, row'.map hh, res)) : muRes M i [j1, j2] as ρ = .ok (.tmp res) (ρ.set i (some (hL (hL (hL hh)) (l.set j1 (m.set j2 row'))))) := by
  have g := getP_2 h1 e2 f2
  have g : getP ρ i [j1, j2] = some (.node .lst (row.map hh)) := g
  unfold muRes
  rw [g]
  dsimp only
  rw [hM]
  dsimp only
  rw [putP_2 h1 e2 f2]
theorem on2_parts {α : Type} {l l' : List (List (List α))} {op : List α → Option (List α)} (hv : on2T l k1 k2 op = some l') :
    ∃ m row row', atI l k1 = some m ∧ atI m k2 = some row ∧ op row = some row' ∧ ∀ j1 j2, ixN l.length k1 = some j1 → ixN m.length k2 = some j2 → l' = l.set j1 (m.set j2 row') := by
  obtain ⟨j, e1, e2⟩ := ob hv
  obtain ⟨m, e3, e4⟩ := ob e2
  obtain ⟨r, e5, rfl⟩ := Option.map_eq_some_iff.mp e4
  obtain ⟨j2, f1, f2⟩ := ob e5
  obtain ⟨row, f3, f4⟩ := ob f2
  obtain ⟨r2, f5, rfl⟩ := Option.map_eq_some_iff.mp f4
  refine ⟨m, row, r2, by unfold atI; rw [e1]; exact e3, by unfold atI; rw [f1]; exact f3, f5, fun a b ha hb => ?_⟩
  rw [e1] at ha; cases ha
  rw [f1] at hb; cases hb
  rfl
theorem st_mut2 {α : Type} {hh : α → O} {l l' : List (List (List α))} {op : List α → Option (List α)} {M : Mu} {us : List Opd} {as : List O} (hi : ρ[i]? = some (some (hL (hL (hL hh)) l))) (hk1 : rdE fa ρ = .ok (.int k1)) (hk2 : rdE fb ρ = .ok (.int k2)) (ha : fos ρ = .ok us) (ht : tmps us = some as) (hv : on2T l k1 k2 op = some l')
    (hM : ∀ row row', op row = some row' → ∃ res, M .lst (row.map hh) as = some (.lst, row'.map hh, res)) : sDrop (xMut "list" M (eIx (eIx (eVar i) fa) fb) fos) ρ = .ok .nx (ρ.set i (some (hL (hL (hL hh)) l'))) := by
  obtain ⟨m, row, row', a1, a2, a3, a4⟩ := on2_parts hv
  obtain ⟨j1, j2, e1, e2, f1, f2, f3⟩ := at_q2 hi hk1 hk2 a1 a2
  obtain ⟨res, hm⟩ := hM row row' a3
  have hr := muRes_2 hi e2 f2 hm
  rw [sDrop_ap]
  simp only [xMut_ap, f3]
  rw [getP_2 hi e2 f2]
  show ((if isT "list" (some (O.node .lst (row.map hh))) = true then (match fos ρ with
    | .ok os => (match tmps os with
      | some args => muRes M i [j1, j2] args ρ
      | none => .bad)
    | .exc c fs => .exc c fs ρ
    | .bad => .bad) else RX.bad).thn fun _ => sNx) = _
  rw [ha]
  simp only [isT_lst, ht]
  show (muRes M i [j1, j2] as ρ).thn (fun _ => sNx) = _
  rw [hr, a4 j1 j2 e1 f1]
  rfl
theorem st_app2 {α : Type} {hh : α → O} {l l' : List (List (List α))} {x : α} (hi : ρ[i]? = some (some (hL (hL (hL hh)) l))) (hk1 : rdE fa ρ = .ok (.int k1)) (hk2 : rdE fb ρ = .ok (.int k2)) (ha : fe ρ = .ok (.tmp (hh x))) (hv : on2T l k1 k2 (fun r => appT r x) = some l') : sDrop (xMut "list" muApp (eIx (eIx (eVar i) fa) fb) (oCons fe oNil)) ρ = .ok .nx (ρ.set i (some (hL (hL (hL hh)) l'))) :=
  st_mut2 (us := [.tmp (hh x)]) (as := [hh x]) hi hk1 hk2 (by rw [oCons_ap, ha]; rfl) rfl hv fun row row' e => by
    unfold appT at e
    split at e
    · next z =>
      cases e
      refine ⟨.dat .non, ?_⟩
      rw [muApp_ok (by rw [List.length_map]; exact z), List.map_append]
      rfl
    · cases e
theorem st_pop2 {α : Type} {hh : α → O} {l l' : List (List (List α))} (hi : ρ[i]? = some (some (hL (hL (hL hh)) l))) (hk1 : rdE fa ρ = .ok (.int k1)) (hk2 : rdE fb ρ = .ok (.int k2)) (hv : on2T l k1 k2 (fun r => (popT r).map (·.2)) = some l') : sDrop (xMut "list" muPop0 (eIx (eIx (eVar i) fa) fb) oNil) ρ = .ok .nx (ρ.set i (some (hL (hL (hL hh)) l'))) :=
  st_mut2 (us := []) (as := []) hi hk1 hk2 rfl rfl hv fun row row' e => by
    obtain ⟨v, e1, rfl⟩ := Option.map_eq_some_iff.mp e
    exact ⟨_, mu_pop e1⟩
theorem st_rev1 {α : Type} {hh : α → O} {l l' : List (List α)} (hi : ρ[i]? = some (some (hL (hL hh) l))) (hk : rdE fb ρ = .ok (.int k)) (hv : on1T l k (fun r => some r.reverse) = some l') : sDrop (xMut "list" muRev (eIx (eVar i) fb) oNil) ρ = .ok .nx (ρ.set i (some (hL (hL hh) l'))) :=
  st_mut1 (us := []) (as := []) hi hk rfl rfl hv fun row row' e => by
    cases e
    refine ⟨.dat .non, ?_⟩
    rw [muRev_ap, List.map_reverse]
theorem st_sto2 {α : Type} {hh : α → O} {l l' : List (List (List α))} {x : α} (hi : ρ[i]? = some (some (hL (hL (hL hh)) l))) (hk1 : rdE fa ρ = .ok (.int k1)) (hk2 : rdE fb ρ = .ok (.int k2)) (hk3 : dE fc ρ = .ok (.int k3)) (ha : fe ρ = .ok (.tmp (hh x))) (hv : on2T l k1 k2 (fun r => setT r k3 x) = some l') : sSto muSet2 (lft fe) (eIx (eIx (eVar i) fa) fb) fc ρ = .ok .nx (ρ.set i (some (hL (hL (hL hh)) l'))) := by
  obtain ⟨m, row, row', a1, a2, a3, a4⟩ := on2_parts hv
  obtain ⟨j1, j2, e1, e2, f1, f2, f3⟩ := at_q2 hi hk1 hk2 a1 a2
  have hm : muSet2 .lst (row.map hh) [.dat (.int k3), hh x] = some (.lst, row'.map hh, .dat .non) := by
    obtain ⟨j3, g1, g2⟩ := ob a3
    split at g2
    · next z =>
      cases g2
      show (match ixN (row.map hh).length k3 with
        | some j => if j < (row.map hh).length then some (Tag.lst, (row.map hh).set j (hh x), O.dat .non) else none
        | none => none) = _
      rw [List.length_map, g1]
      dsimp only
      rw [if_pos z, List.map_set]
    · cases g2
  have hr := muRes_2 hi e2 f2 hm
  rw [sSto_ap, lft_ap, ha]
  simp only [RX.thn_ok, toOwn_t, toRS_some, f3, Rs.thn_ok, hk3]
  rw [hr, a4 j1 j2 e1 f1]
  rfl
end
end FL
namespace FL
open PySem L2
def cY {α : Type} (c : α → D) (p : Bool × List α) : D := match p.1 with
  | true => cT c p.2
  | false => cL c p.2
section
variable {α : Type} {c : α → D} {q : Bool × List α} {fe : FE} {ρ : FL.Env}
theorem i_Y (h : dE fe ρ = .ok (cY c q)) : iSeq (dE fe) ρ = .ok (q.2.map c) := by
  obtain ⟨b, l⟩ := q
  cases b with
  | true => exact i_T h
  | false => exact i_L h
theorem len_Y : dLen [cY c q] = .ok (.dat (.int q.2.length)) := by
  obtain ⟨b, l⟩ := q
  cases b with
  | true => exact len_T
  | false => exact len_L
end
section
variable {α : Type} {hh : α → O} {l : List α} {v : α × List α} {fb : FE} {ρ : FL.Env} {i j : Nat} {k : Int}
theorem x_popAt (hi : ρ[i]? = some (some (hL hh l))) (hk : fb ρ = .ok (.tmp (.dat (.int k)))) (hv : popAtT l k = some v) : xMut "list" muPop1 (eVar i) (oCons fb oNil) ρ = .ok (.tmp (hh v.1)) (ρ.set i (some (hL hh v.2))) := by
  have hi' : ρ[i]? = some (some (.node .lst (l.map hh))) := hi
  have ha : oCons fb oNil ρ = .ok [.tmp (.dat (.int k))] := by rw [oCons_ap, hk]; rfl
  have ht : tmps [.tmp (.dat (.int k))] = some [.dat (.int k)] := rfl
  simp only [xMut_ap, eVar_ap, hi', getP_nil, Option.join_some, isT_lst, ha, ht, muRes_nil, mu_popAt hv]
  rfl
theorem st_appPop {l2 l3 : List α} (hij : i ≠ j) (hj : ρ[j]? = some (some (hL hh l2))) (hi : ρ[i]? = some (some (hL hh l))) (hk : fb ρ = .ok (.tmp (.dat (.int k)))) (hv : popAtT l k = some v) (ha : appT l2 v.1 = some l3) :
    sDrop (xMut1 "list" muApp (eVar j) (xMut "list" muPop1 (eVar i) (oCons fb oNil))) ρ = .ok .nx ((ρ.set i (some (hL hh v.2))).set j (some (hL hh l3))) := by
  unfold appT at ha
  split at ha
  · next z =>
    cases ha
    have hj' : ρ[j]? = some (some (.node .lst (l2.map hh))) := hj
    have hj2 : (ρ.set i (some (hL hh v.2)))[j]? = some (some (.node .lst (l2.map hh))) := by rw [List.getElem?_set_ne hij]; exact hj
    have e : muApp .lst (l2.map hh) [hh v.1] = some (.lst, (l2 ++ [v.1]).map hh, .dat .non) := by
      show (if (l2.map hh).length < sizeLine then some (Tag.lst, l2.map hh ++ [hh v.1], O.dat .non) else none) = _
      rw [if_pos (szl_lt (by rw [List.length_map]; exact z)), List.map_append]; rfl
    rw [sDrop_ap]
    simp only [xMut1_ap, eVar_ap, hj', getP_nil, Option.join_some, isT_lst, x_popAt hi hk hv, toOwn_tmp, muRes_nil, hj2, e]
    rfl
  · cases ha
end
noncomputable def augT (l : List Int) (k y : Int) : Option (List Int) := if okAg k ∧ l.length < 16777216 then l[k.toNat]?.map fun x => l.set k.toNat (x + y) else none
theorem augT_n {l : List Int} {k : Nat} {y : Int} (h : k < l.length) (h2 : l.length < 16777216) : augT l (k : Int) y = some (l.set k (l[k] + y)) := by
  unfold augT
  rw [if_pos ⟨⟨by omega, by omega⟩, h2⟩, Int.toNat_natCast, List.getElem?_eq_getElem h]; rfl
theorem st_augL {l l' : List Int} {fb fe : FE} {ρ : FL.Env} {i : Nat} {k y : Int} (hi : ρ[i]? = some (some (hL (hD D.int) l))) (hk : dE fb ρ = .ok (.int k)) (he : dE fe ρ = .ok (.int y)) (hv : augT l k y = some l') : sAugL i fb fe ρ = .ok .nx (ρ.set i (some (hL (hD D.int) l'))) := by
  unfold augT at hv
  split at hv
  · next z =>
    obtain ⟨x, e1, rfl⟩ := Option.map_eq_some_iff.mp hv
    obtain ⟨j, rfl⟩ : ∃ j : Nat, k = (j : Int) := ⟨k.toNat, (Int.toNat_of_nonneg z.1.1).symm⟩
    rw [Int.toNat_natCast] at e1 ⊢
    have hj : j < l.length := (List.getElem?_eq_some_iff.mp e1).1
    have hi' : ρ[i]? = some (some (.node .lst (l.map fun x => O.dat (D.int x)))) := hi
    have e2 : (l.map fun x => O.dat (D.int x))[j]? = some (.dat (.int x)) := by rw [List.getElem?_map, e1]; rfl
    have e3 : muSet2 .lst (l.map fun x => O.dat (D.int x)) [.dat (.int (j : Int)), .dat (.int (x + y))] = some (.lst, (l.map fun x => O.dat (D.int x)).set j (.dat (.int (x + y))), .dat .non) := muSet2_lst (by rw [List.length_map]; exact hj) (by rw [List.length_map]; exact z.2)
    unfold sAugL
    rw [hi']
    simp only [hk, Rs.thn_ok]
    rw [if_pos z.1]
    simp only [Int.toNat_natCast, e2, he, Rs.thn_ok, muRes_nil, hi', e3]
    rw [← List.map_set]
    rfl
  · cases hv
section
variable {α : Type} {hh : α → O} {c : α → D} {l : List α} {v : α × List α} {fe fb : FE} {ρ : FL.Env} {i j : Nat} {k : Int}
theorem st_setPop [z : Fz hh c] (hi : ρ[i]? = some (some (hL hh l))) (hk : fb ρ = .ok (.tmp (.dat (.int k)))) (hv : popAtT l k = some v) : sSet j (xMut "list" muPop1 (eVar i) (oCons fb oNil)) ρ = .ok .nx ((ρ.set i (some (hL hh v.2))).set j (some (.dat (c v.1)))) := by
  rw [sSet_ap, x_popAt hi hk hv]
  simp only [RX.thn_ok, toDat_t, z.fz, Option.map_some, toRS_some]
def unp2 (l : List α) : Option (α × α) := match l with
  | [a, b] => some (a, b)
  | _ => none
def unp3 (l : List α) : Option (α × α × α) := match l with
  | [a, b, c] => some (a, b, c)
  | _ => none
theorem unp2_ok {w : α × α} (h : unp2 l = some w) : l = [w.1, w.2] := by
  unfold unp2 at h
  split at h
  · cases h; rfl
  · cases h
theorem unp3_ok {w : α × α × α} (h : unp3 l = some w) : l = [w.1, w.2.1, w.2.2] := by
  unfold unp3 at h
  split at h
  · cases h; rfl
  · cases h
theorem st_asg2 [z : Fz hh c] {w : α × α} {b : FG} {ρ2 : FL.Env} (h : fe ρ = .ok (.tmp (hL hh l))) (hu : unp2 l = some w) (hb : b (cL c [w.1, w.2]) ρ = some ρ2) : sAsg b (lft fe) ρ = .ok .nx ρ2 := by
  have e := unp2_ok hu
  subst e
  exact st_asgn (hh := hL hh) (c := cL c) h hb
theorem st_asg3 [z : Fz hh c] {w : α × α × α} {b : FG} {ρ2 : FL.Env} (h : fe ρ = .ok (.tmp (hL hh l))) (hu : unp3 l = some w) (hb : b (cL c [w.1, w.2.1, w.2.2]) ρ = some ρ2) : sAsg b (lft fe) ρ = .ok .nx ρ2 := by
  have e := unp3_ok hu
  subst e
  exact st_asgn (hh := hL hh) (c := cL c) h hb
end
theorem x_sl {fe : FE} {fl fh : FO} {ρ : FL.Env} {c : Str} {xs : List (Str × D)} (e : rdE fe ρ = .exc c xs) : eSl fe fl fh ρ = .exc c xs := by
  unfold eSl
  rw [e]; rfl
theorem cat_LS {a b v : List Int} (h : catT a b = some v) : dAdd (cL D.int a) (cS b) = .ok (hL (hD D.int) v) := by
  unfold catT at h
  split at h
  · next z =>
    cases h
    show (if (a.map D.int).length + (b.map D.int).length ≤ sizeLine then _ else _ : Rs O) = _
    rw [if_pos (szl (by simpa using z)), ← List.map_append, List.map_map]; rfl
  · cases h
theorem cat_SL {a b v : List Int} (h : catT a b = some v) : dAdd (cS a) (cL D.int b) = .ok (hL (hD D.int) v) := by
  unfold catT at h
  split at h
  · next z =>
    cases h
    show (if (a.map D.int).length + (b.map D.int).length ≤ sizeLine then _ else _ : Rs O) = _
    rw [if_pos (szl (by simpa using z)), ← List.map_append, List.map_map]; rfl
  · cases h
theorem l_varm {α : Type} {c : α → D} {tm : Option α} {v : α} {ρ : FL.Env} {i : Nat} (h : tm = some v) (e : ρ[i]? = some (tm.map fun v => O.dat (c v))) : eVar i ρ = .ok (.tmp (.dat (c v))) := by
  subst h
  exact l_var e
end FL
namespace FL
open PySem L2
section
variable {α : Type} [DecidableEq α] {a : α → D} {la : α → α → Bool}
theorem minN_o {n : Nat} [g : Od a la] [k : Gd a n] (hn : n ≤ 8) (l : List α) : dMinN [cL a l] = .ok (.dat (cO a (minOT la l))) := by
  cases l with
  | nil => rfl
  | cons x l =>
    have h1 : seqI (.lst ((x :: l).map a)) = some (a x :: l.map a) := rfl
    have ok : okMin (a x :: l.map a) := okMin_o hn (x :: l)
    show dMinN [.lst ((x :: l).map a)] = _
    unfold dMinN
    simp only [h1]
    rw [if_pos ok, minDD_o]; rfl
theorem minT_o {n : Nat} [g : Od a la] [k : Gd a n] (hn : n ≤ 8) {l : List α} {v : α} (h : minOT la l = some v) : dMin2 [cT a l] = .ok (.dat (a v)) := by
  cases l with
  | nil => cases h
  | cons x l =>
    cases h
    have h0 : (lOf (.tup ((x :: l).map a))).bind intsOf = none := rfl
    have h1 : seqI (.tup ((x :: l).map a)) = some (a x :: l.map a) := rfl
    have ok : okMin (a x :: l.map a) := okMin_o hn (x :: l)
    show dMin2 [.tup ((x :: l).map a)] = _
    unfold dMin2
    simp only [h0, h1]
    rw [if_pos ok, minDD_o]
theorem maxT_o {n : Nat} [g : Od a la] [k : Gd a n] (hn : n ≤ 8) {l : List α} {v : α} (h : maxOT la l = some v) : dMax2 [cT a l] = .ok (.dat (a v)) := by
  cases l with
  | nil => cases h
  | cons x l =>
    cases h
    have h0 : (lOf (.tup ((x :: l).map a))).bind intsOf = none := rfl
    have h1 : seqI (.tup ((x :: l).map a)) = some (a x :: l.map a) := rfl
    have ok : okMin (a x :: l.map a) := okMin_o hn (x :: l)
    show dMax2 [.tup ((x :: l).map a)] = _
    unfold dMax2
    simp only [h0, h1]
    rw [if_pos ok, maxDD_o]
end
section
variable {α : Type} {c : α → D}
theorem back_T (l : List α) : dBack (cT c l) = .ok (.dat (cT c l.reverse)) := by
  show Rs.ok (O.dat (.tup (l.map c).reverse)) = _
  rw [← List.map_reverse]; rfl
theorem back_L (l : List α) : dBack (cL c l) = .ok (hL (hD c) l.reverse) := by
  show Rs.ok (O.node .lst ((l.map c).reverse.map .dat)) = _
  rw [← List.map_reverse, List.map_map]; rfl
end
theorem so_frz {α γ : Type} {Q : α → RS → Prop} {t : Option α} {f g rest : FS} {ρ : FL.Env} {i : Nat} {hh : γ → O} {c : γ → D} [z : Fz hh c] {v : List γ} {is : List Nat} (h : ρ[i]? = some (some (hL hh v)))
    (h2 : So Q t (sSeq (sSeq (sFrz is f) rest) g (ρ.set i (some (.dat (cL c v)))))) : So Q t (sSeq (sSeq (sFrz (i :: is) f) rest) g ρ) := by
  rw [sSeq_ap, sSeq_ap] at h2 ⊢
  rw [st_frz (hh := hh) (v := v) h rfl]
  exact h2
theorem so_frz0 {α : Type} {Q : α → RS → Prop} {t : Option α} {f g rest : FS} {ρ : FL.Env} {i : Nat} {d : D} {is : List Nat} (h : ρ[i]? = some (some (.dat d)))
    (h2 : So Q t (sSeq (sSeq (sFrz is f) rest) g ρ)) : So Q t (sSeq (sSeq (sFrz (i :: is) f) rest) g ρ) := by
  rw [sSeq_ap, sSeq_ap] at h2 ⊢
  rw [st_frz0 h rfl]
  exact h2
section
variable {α : Type} [DecidableEq α] {c : α → D} {ρ : FL.Env} {fa fb : FE} {i : Nat}
def memB (x : α) (l : List α) : Bool := decide (x ∈ l)
theorem memB_iff {x : α} {l : List α} : memB x l = true ↔ x ∈ l := by unfold memB; exact decide_eq_true_iff
theorem any_in {n : Nat} [z : Gd c n] (x : α) : ∀ l : List α, ((l.map c).any fun y => eqD y (c x)) = decide (x ∈ l)
  | [] => by simp
  | y :: l => by
    rw [List.map_cons, List.any_cons, any_in x l, z.eq]
    by_cases h : x = y
    · subst h; simp
    · simp [h, Ne.symm h]
theorem inD_L {n : Nat} [z : Gd c n] (hn : n ≤ 7) (x : α) (l : List α) : inD (c x) (cL c l) = some (memB x l) := by
  have h1 : okE 8 (c x) = true := okE_mono _ (by omega) (z.ok x)
  have h2 : okEs 7 (l.map c) = true := okEs_all fun y _ => okE_mono _ hn (z.ok y)
  have e : inD (c x) (.lst (l.map c)) = if okE 8 (c x) = true ∧ okEs 7 (l.map c) = true then some ((l.map c).any fun z => eqD z (c x)) else none := by cases c x <;> rfl
  show inD (c x) (.lst (l.map c)) = _
  rw [e, if_pos ⟨h1, h2⟩, any_in]; rfl
theorem inD_T (x : Int) (l : List Int) : inD (.int x) (cT D.int l) = some (memB x l) := by
  have h2 : (l.map D.int).all flatD = true := by
    rw [List.all_eq_true]
    intro d hd
    obtain ⟨y, _, rfl⟩ := List.mem_map.mp hd
    rfl
  show (if flatD (.int x) = true ∧ (l.map D.int).all flatD = true then some ((l.map D.int).any fun z => eqD z (.int x)) else none) = _
  rw [if_pos ⟨rfl, h2⟩, any_in (c := D.int) x l]; rfl
def negB (neg b : Bool) : Bool := b != neg
theorem l_inO {x d : D} {o : O} {b : Bool} (neg : Bool) (h1 : rdE fa ρ = .ok x) (h2 : fb ρ = .ok (.tmp o)) (h3 : freeze o = some d) (h4 : inD x d = some b) : eIn neg fa fb ρ = .ok (.tmp (.dat (.bl (negB neg b)))) := by
  unfold eIn
  rw [h1, Rs.bnd_ok, h2, Rs.bnd_ok]
  simp only [h3, Option.bind_some, h4, toRs_some, Rs.bnd_ok]
  rfl
theorem l_inP {x : D} {b : Bool} {l : List α} (neg : Bool) (h1 : rdE fa ρ = .ok x) (h2 : ρ[i]? = some (some (hL (hD c) l))) (h4 : inD x (cL c l) = some b) : eIn neg fa (eVar i) ρ = .ok (.tmp (.dat (.bl (negB neg b)))) := by
  have h' : ρ[i]? = some (some (.node .lst (l.map (hD c)))) := h2
  unfold eIn
  rw [h1, Rs.bnd_ok, l_own h', Rs.bnd_ok]
  simp only [getP_nil, h', Option.join_some]
  have e : kidIn .lst (l.map (hD c)) x = some b := by
    show (dats (l.map (hD c))).bind (fun ds => inD x (.lst ds)) = _
    rw [dats_h]; exact h4
  simp only [e, toRs_some, Rs.bnd_ok]
  rfl
theorem sortSet_L (l : List Int) (h : l.length < 64) : dSortSet (cL D.int l) = .ok (hL (hD D.int) (sortU l)) := by
  unfold dSortSet
  have e : (lOf (cL D.int l)).bind intsOf = some l := intsOf_map l
  rw [e]
  simp only
  rw [if_pos h]
  rfl
def sortUT (l : List Int) : Option (List Int) := if l.length < 64 then some (sortU l) else none
theorem l_sortSet {l r : List Int} (h1 : rdE fa ρ = .ok (cL D.int l)) (h2 : sortUT l = some r) : eUn dSortSet fa ρ = .ok (.tmp (hL (hD D.int) r)) := by
  unfold sortUT at h2
  by_cases h : l.length < 64
  · rw [if_pos h] at h2
    cases h2
    unfold eUn
    rw [h1, Rs.bnd_ok, sortSet_L l h]; rfl
  · rw [if_neg h] at h2; cases h2
def idxT (x : α) (l : List α) : Option Int := (l.findIdx? fun z => decide (z = x)).map fun (j : Nat) => (j : Int)
theorem l_index {n : Nat} [z : Gd c n] (hn : n ≤ 7) {x : α} {l : List α} {v : Int} (h1 : rdE fa ρ = .ok (cL c l)) (h2 : rdE fb ρ = .ok (c x)) (h3 : idxT x l = some v) : eIndex fa fb ρ = .ok (.tmp (.dat (.int v))) := by
  have e1 : okE 8 (c x) = true := okE_mono _ (by omega) (z.ok x)
  have e2 : okEs 7 (l.map c) = true := okEs_all fun y _ => okE_mono _ hn (z.ok y)
  have e3 : (l.map c).findIdx? (fun y => eqD y (c x)) = l.findIdx? fun y => decide (y = x) := by
    rw [List.findIdx?_map]
    congr 1
    funext y
    exact z.eq y x
  unfold eIndex
  rw [h1, Rs.bnd_ok]
  show (rdE fb ρ).bnd (fun x => (idxD (l.map c) x).bnd okT) = _
  rw [h2, Rs.bnd_ok]
  unfold idxD
  rw [if_pos ⟨e1, e2⟩, e3]
  unfold idxT at h3
  cases h : l.findIdx? fun y => decide (y = x) with
  | none => rw [h] at h3; cases h3
  | some j => rw [h] at h3; cases h3; rfl
end
end FL
namespace FL
open PySem L2
section
variable {α β γ : Type} {h1 : α → O} {h2 : β → O} {h3 : γ → O} {c1 : α → D} {c2 : β → D} {c3 : γ → D}
def hQ (h1 : α → O) (h2 : β → O) (v : α × β) : O := .pck [h1 v.1, h2 v.2]
def hQ3 (h1 : α → O) (h2 : β → O) (h3 : γ → O) (v : α × β × γ) : O := .pck [h1 v.1, h2 v.2.1, h3 v.2.2]
theorem frz_pck {l : List O} {ds : List D} (h : freezes l = some ds) : freeze (.pck l) = some (.tup ds) := by
  unfold freeze
  rw [h]
theorem frzs_cons {o : O} {os : List O} {d : D} {ds : List D} (h : freeze o = some d) (h2 : freezes os = some ds) : freezes (o :: os) = some (d :: ds) := by
  show (match freeze o, freezes os with
    | some d, some ds => some (d :: ds)
    | _, _ => none) = _
  rw [h, h2]
instance fzQ [g1 : Fz h1 c1] [g2 : Fz h2 c2] : Fz (hQ h1 h2) (cP c1 c2) := ⟨fun x => frz_pck (frzs_cons (g1.fz _) (frzs_cons (g2.fz _) rfl))⟩
instance fzQ3 [g1 : Fz h1 c1] [g2 : Fz h2 c2] [g3 : Fz h3 c3] : Fz (hQ3 h1 h2 h3) (cP3 c1 c2 c3) := ⟨fun x => frz_pck (frzs_cons (g1.fz _) (frzs_cons (g2.fz _) (frzs_cons (g3.fz _) rfl)))⟩
instance clQ [g1 : Cl h1] [g2 : Cl h2] : Cl (hQ h1 h2) := ⟨fun x => by
  show (cleanO (h1 x.1) && (cleanO (h2 x.2) && true)) = true
  rw [g1.cl, g2.cl]; rfl⟩
instance clQ3 [g1 : Cl h1] [g2 : Cl h2] [g3 : Cl h3] : Cl (hQ3 h1 h2 h3) := ⟨fun x => by
  show (cleanO (h1 x.1) && (cleanO (h2 x.2.1) && (cleanO (h3 x.2.2) && true))) = true
  rw [g1.cl, g2.cl, g3.cl]; rfl⟩
end
section
variable {ρ : FL.Env} {i : Nat} {fe : FE} {fos : FOs} {o : O} {xs : List O}
theorem l_pck {l : List O} (h : ρ[i]? = some (some (.pck l))) : eVar i ρ = .ok (.plc i []) := by rw [eVar_ap, h]
theorem b2_o {l : List O} {d : D} (h : ρ[i]? = some (some (.pck l))) (hf : freeze (.pck l) = some d) : B2 ρ (eVar i) d := by
  refine ⟨?_, r_d (l_var ?_)⟩
  · rw [rdE_ap, l_pck h, Rs.bnd_ok, rd_plc, h]
    cases z : dats l with
    | none => left; simp only [z]; rfl
    | some ds =>
      right
      rw [frz_pck (dats_freezes z)] at hf
      cases hf
      simp only [z]; rfl
  · rw [frz_at h]
    show some ((freeze (.pck l)).map O.dat) = _
    rw [hf]; rfl
theorem b2_q {α : Type} {hh : α → O} {c : α → D} [z : Fz hh c] {l : List O} {v : α} (h : ρ[i]? = some (some (hh v))) (e : hh v = .pck l) : B2 ρ (eVar i) (c v) := b2_o (l := l) (by rw [h, e]) (by rw [← e]; exact z.fz v)
def Tk (kp : List Nat) (ρ0 ρ : FL.Env) (fos : FOs) (xs : List O) (ρ' : FL.Env) : Prop := ∃ os, fos ρ0 = .ok os ∧ toRets kp ρ os = some (xs, ρ')
theorem tk_nil {kp : List Nat} {ρ0 : FL.Env} : Tk kp ρ0 ρ oNil [] ρ := ⟨[], rfl, rfl⟩
theorem tk_t {kp : List Nat} {ρ0 ρ' : FL.Env} (h1 : fe ρ0 = .ok (.tmp o)) (h : Tk kp ρ0 ρ fos xs ρ') : Tk kp ρ0 ρ (oCons fe fos) (o :: xs) ρ' := by
  obtain ⟨os, e1, e2⟩ := h
  refine ⟨.tmp o :: os, by rw [oCons_ap, h1, Rs.bnd_ok, e1]; rfl, ?_⟩
  unfold toRets
  rw [toRet_t]
  simp only [e2]
theorem tk_p {kp : List Nat} {ρ0 ρ' : FL.Env} {t : Tag} {l : List O} (h0 : eVar i ρ0 = .ok (.plc i [])) (h1 : ρ[i]? = some (some (.node t l))) (hk : i ∉ kp) (h : Tk kp ρ0 (ρ.set i none) fos xs ρ') : Tk kp ρ0 ρ (oCons (eVar i) fos) (.node t l :: xs) ρ' := by
  obtain ⟨os, e1, e2⟩ := h
  refine ⟨.plc i [] :: os, by rw [oCons_ap, h0, Rs.bnd_ok, e1]; rfl, ?_⟩
  unfold toRets
  rw [toRet_p, if_pos ⟨rfl, hk⟩, h1]
  simp only [e2]
theorem st_retpk {kp : List Nat} {ρ' : FL.Env} (h : Tk kp ρ ρ fos xs ρ') (hl : xs.length ≤ 100) : sRet kp (xPck kp fos) ρ = .ok (.rt (.pck xs)) ρ' := by
  obtain ⟨os, e1, e2⟩ := h
  have e3 : xPck kp fos ρ = .ok (.tmp (.pck xs)) ρ' := by
    unfold xPck
    rw [e1]
    simp only [e2]
    rw [if_pos (szl (by omega))]
  rw [sRet_ap, e3]
  rfl
theorem st_unp {is : List Nat} {os : List O} (h : ρ[i]? = some (some (.pck os))) (hl : os.length = is.length) : sUnp is (xMov i) ρ = .ok .nx (setAll is os (ρ.set i none)) := by
  unfold sUnp
  rw [xMov_at h]
  show (if os.length = is.length then _ else _) = _
  rw [if_pos hl]
theorem l_ixO {k : Int} {l : List O} {j : Nat} (h1 : fe ρ = .ok (.tmp (.pck l))) (h2 : ixN l.length k = some j) (h3 : l[j]? = some o) : eIxO k fe ρ = .ok (.tmp o) := by
  unfold eIxO
  rw [h1, Rs.bnd_ok]
  simp only [h2, Option.bind_some, h3]
theorem l_ix3 {α : Type} {c : α → D} {fa fb fc : FE} {k1 k2 k3 : Int} {l : List (List (List α))} {m : List (List α)} {row : List α} {v : α} (h1 : ρ[i]? = some (some (hL (hL (hL (hD c))) l))) (hk1 : rdE fa ρ = .ok (.int k1)) (h3 : atI l k1 = some m) (hk2 : rdE fb ρ = .ok (.int k2)) (h4 : atI m k2 = some row) (hk3 : rdE fc ρ = .ok (.int k3)) (h5 : atI row k3 = some v) :
    eIx (eIx (eIx (eVar i) fa) fb) fc ρ = .ok (.tmp (.dat (c v))) := by
  obtain ⟨j1, j2, e1, e2, f1, f2, e3⟩ := at_q2 h1 hk1 hk2 h3 h4
  rw [eIx_ap, e3, Rs.bnd_ok]
  simp only [hk3, Rs.bnd_ok, getP_2 h1 e2 f2]
  show plcIx i [j1, j2] .lst (row.map (hD c)) (.int k3) = _
  exact plcIx_lst (by rw [atI_map, h5]; rfl)
def hasT {κ α : Type} [DecidableEq κ] (k : κ) (l : List (κ × α)) : Bool := (idxK l k).isSome
theorem hasT_iff {κ α : Type} [DecidableEq κ] {k : κ} {l : List (κ × α)} : hasT k l = true ↔ k ∈ l.map (·.1) := by
  unfold hasT idxK
  rw [List.findIdx?_isSome, List.any_eq_true]
  constructor
  · rintro ⟨x, h1, h2⟩
    exact List.mem_map.mpr ⟨x, h1, by simpa using h2⟩
  · intro h
    obtain ⟨x, h1, h2⟩ := List.mem_map.mp h
    exact ⟨x, h1, by simpa using h2⟩
theorem l_inG {fa : FE} {x : D} {b : Bool} {t : Tag} {l : List O} (neg : Bool) (h1 : rdE fa ρ = .ok x) (h2 : ρ[i]? = some (some (.node t l))) (h4 : kidIn t l x = some b) : eIn neg fa (eVar i) ρ = .ok (.tmp (.dat (.bl (negB neg b)))) := by
  unfold eIn
  rw [h1, Rs.bnd_ok, l_own h2, Rs.bnd_ok]
  simp only [getP_nil, h2, Option.join_some, h4, toRs_some, Rs.bnd_ok]
  rfl
theorem l_inW {α : Type} {hh : α → O} {fa : FE} {k : List Int} {l : List (List Int × α)} (neg : Bool) (h1 : rdE fa ρ = .ok (cT D.int k)) (h2 : ρ[i]? = some (some (hW hh l))) : eIn neg fa (eVar i) ρ = .ok (.tmp (.dat (.bl (negB neg (hasT k l))))) := by
  refine l_inG (t := .dcT (l.map fun (p : List Int × α) => keyW p.1)) (l := l.map fun (p : List Int × α) => hh p.2) neg h1 h2 ?_
  show (if (l.map fun (p : List Int × α) => keyW p.1).length = (l.map fun (p : List Int × α) => hh p.2).length then (keysD (k.map D.int)).map fun k => ((l.map fun (p : List Int × α) => keyW p.1).findIdx? fun z => decide (z = k)).isSome else none) = _
  rw [if_pos (by simp), keysD_w, Option.map_some, idx_map (fun _ _ => keyW_inj)]
  rfl
theorem l_inK {α : Type} {hh : α → O} {fa : FE} {k : Int} {l : List (Int × α)} (neg : Bool) (h1 : rdE fa ρ = .ok (.int k)) (h2 : ρ[i]? = some (some (hK hh l))) : eIn neg fa (eVar i) ρ = .ok (.tmp (.dat (.bl (negB neg (hasT k l))))) := by
  refine l_inG (t := .dct (l.map fun (p : Int × α) => keyI p.1)) (l := l.map fun (p : Int × α) => hh p.2) neg h1 h2 ?_
  show (if (l.map fun (p : Int × α) => keyI p.1).length = (l.map fun (p : Int × α) => hh p.2).length then (keyD (.int k)).map fun k => ((l.map fun (p : Int × α) => keyI p.1).findIdx? fun z => decide (z = k)).isSome else none) = _
  rw [if_pos (by simp)]
  show some _ = _
  congr 1
  exact congrArg Option.isSome (idx_map (f := keyI) (fun _ _ => keyI_inj) l k)
end
end FL
namespace Z
open PySem L2 FL
abbrev pw : Program := PySem.Challenge.pw_lettertoll_k82_ends_of_knots
def sP0 : Stmt := .Pass ⟨0, 0, 0, 0⟩
def top (i : Nat) : Stmt := pw.main.body.getD i sP0
def stA : Stmt → List Stmt
  | .If _ a _ _ => a
  | .For _ _ a _ _ => a
  | .While _ a _ _ => a
  | .Try a _ _ _ _ => a
  | _ => []
def stB : Stmt → List Stmt
  | .If _ _ b _ => b
  | _ => []
def stH : Stmt → List Stmt
  | .Try _ [.ExceptHandler _ _ b _] _ _ _ => b
  | _ => []
def f_look_at_many : FnE := ⟨"look_at_many", defArgs (top 6), defBody (top 6), defScope (top 6), ["many", "least"], ["many", "least"], [], [], []⟩
def f_ends_behind : FnE := ⟨"ends_behind", defArgs (top 7), defBody (top 7), defScope (top 7), ["prices", "ends", "price", "word", "further", "letter", "own"], ["prices", "ends"], [], [], []⟩
def f_grown : FnE := ⟨"grown", defArgs (top 8), defBody (top 8), defScope (top 8), ["prices", "many", "knots", "ends", "turn"], ["prices", "many"], ["knots", "ends", "()"], [], []⟩
def f_cheapest_knots : FnE := ⟨"cheapest_knots", defArgs (top 9), defBody (top 9), defScope (top 9), ["prices", "many"], ["prices", "many"], ["()"], [], []⟩
def f_ends_of : FnE := ⟨"ends_of", defArgs (top 10), defBody (top 10), defScope (top 10), ["prices", "many"], ["prices", "many"], ["()"], [], []⟩
def f_law_cell_at : FnE := ⟨"_law_cell_at", defArgs (top 12), defBody (top 12), defScope (top 12), ["script", "k"], ["script", "k"], [], [], []⟩
def f_law_whole : FnE := ⟨"_law_whole", defArgs (top 13), defBody (top 13), defScope (top 13), ["found"], ["found"], [], [], []⟩
def f_law_amount : FnE := ⟨"_law_amount", defArgs (top 14), defBody (top 14), defScope (top 14), ["cell", "rest"], ["cell"], [], [], []⟩
def f_law_prices : FnE := ⟨"_law_prices", defArgs (top 15), defBody (top 15), defScope (top 15), ["script", "letters", "k"], ["script"], [], [], []⟩
def f_law_many : FnE := ⟨"_law_many", defArgs (top 16), defBody (top 16), defScope (top 16), ["cell"], ["cell"], [], [], []⟩
def f_law_due : FnE := ⟨"_law_due", defArgs (top 17), defBody (top 17), defScope (top 17), ["prices", "knots", "met", "price", "word", "due", "letter"], ["prices", "knots"], ["met", "due"], [], ["met"]⟩
def f_law_pair_whole : FnE := ⟨"_law_pair_whole", defArgs (top 18), defBody (top 18), defScope (top 18), ["pair", "letter"], ["pair"], [], [], []⟩
def f_law_apart : FnE := ⟨"_law_apart", defArgs (top 19), defBody (top 19), defScope (top 19), ["words", "some", "k"], ["words"], [], [], []⟩
def f_law : FnE := ⟨"law", defArgs (top 20), defBody (top 20), defScope (top 20), ["script", "prices", "cell", "many", "found", "due", "pair"], ["script"], ["found"], [], []⟩
def tMisc : List (Str × Gk) := [("all", .blt), ("bool", .blt), ("enumerate", .blt), ("int", .blt), ("isinstance", .blt), ("len", .blt), ("list", .blt), ("range", .blt), ("sorted", .blt), ("tuple", .blt), ("MOST_KNOTS", .cst (.int 60)), ("BadNumber", .exc), ("TooMany", .exc)]
def tSub : List Tri := []
def tIsn : List Tri := []
def T : Tb := ⟨[f_look_at_many, f_ends_behind, f_grown, f_cheapest_knots, f_ends_of, f_law_cell_at, f_law_whole, f_law_amount, f_law_prices, f_law_many, f_law_due, f_law_pair_whole, f_law_apart, f_law], tMisc, tSub, tIsn, []⟩
noncomputable def DD (n : Nat) : Str → List O → RF := T.pg.den n
theorem hs : T.scs = true := by decide +kernel
theorem b_look_at_many : BindOk f_look_at_many := fun _ _ _ _ _ _ us hl => match us, hl with | [_, _], _ => rfl
theorem b_ends_behind : BindOk f_ends_behind := fun _ _ _ _ _ _ us hl => match us, hl with | [_, _], _ => rfl
theorem b_grown : BindOk f_grown := fun _ _ _ _ _ _ us hl => match us, hl with | [_, _], _ => rfl
theorem b_cheapest_knots : BindOk f_cheapest_knots := fun _ _ _ _ _ _ us hl => match us, hl with | [_, _], _ => rfl
theorem b_ends_of : BindOk f_ends_of := fun _ _ _ _ _ _ us hl => match us, hl with | [_, _], _ => rfl
theorem b_law_cell_at : BindOk f_law_cell_at := fun _ _ _ _ _ _ us hl => match us, hl with | [_, _], _ => rfl
theorem b_law_whole : BindOk f_law_whole := fun _ _ _ _ _ _ us hl => match us, hl with | [_], _ => rfl
theorem b_law_amount : BindOk f_law_amount := fun _ _ _ _ _ _ us hl => match us, hl with | [_], _ => rfl
theorem b_law_prices : BindOk f_law_prices := fun _ _ _ _ _ _ us hl => match us, hl with | [_], _ => rfl
theorem b_law_many : BindOk f_law_many := fun _ _ _ _ _ _ us hl => match us, hl with | [_], _ => rfl
theorem b_law_due : BindOk f_law_due := fun _ _ _ _ _ _ us hl => match us, hl with | [_, _], _ => rfl
theorem b_law_pair_whole : BindOk f_law_pair_whole := fun _ _ _ _ _ _ us hl => match us, hl with | [_], _ => rfl
theorem b_law_apart : BindOk f_law_apart := fun _ _ _ _ _ _ us hl => match us, hl with | [_], _ => rfl
theorem b_law : BindOk f_law := fun _ _ _ _ _ _ us hl => match us, hl with | [_], _ => rfl
theorem hbt : ∀ f ∈ T.tab, BindOk f := by
  intro f hf
  simp only [T, List.mem_cons, List.not_mem_nil, or_false] at hf
  rcases hf with rfl | rfl | rfl | rfl | rfl | rfl | rfl | rfl | rfl | rfl | rfl | rfl | rfl | rfl
  · exact b_look_at_many
  · exact b_ends_behind
  · exact b_grown
  · exact b_cheapest_knots
  · exact b_ends_of
  · exact b_law_cell_at
  · exact b_law_whole
  · exact b_law_amount
  · exact b_law_prices
  · exact b_law_many
  · exact b_law_due
  · exact b_law_pair_whole
  · exact b_law_apart
  · exact b_law
theorem hbi : ∀ f ∈ T.ini, BindOkI f := by
  intro f hf
  simp only [T, List.mem_cons, List.not_mem_nil, or_false] at hf
theorem hb : T.Binds := ⟨hbt, hbi⟩
noncomputable def r_look_at_many (d : Str → List O → RF) : FS := (sSeq (sIf (bE (eOp dLt (eVar 0) (eVar 1))) (sSeq (sRaise "BadNumber") sNx) sNx) (sSeq (sIf (bE (eOp dGt (eVar 0) (eK (.int 60)))) (sSeq (sRaise "TooMany") sNx) sNx) sNx))
theorem c_look_at_many (d : Str → List O → RF) : compB 200 (T.pg.ctx d f_look_at_many) f_look_at_many.body = some (r_look_at_many d) := by kernel_rfl
theorem e_look_at_many {m : Nat} (h : 1 ≤ m) : DD m "look_at_many" = runF [] 2 (r_look_at_many (DD (m - 1))) := by
  obtain ⟨k, rfl⟩ : ∃ k, m = k + 1 := ⟨m - 1, by omega⟩
  exact Pg.den_eq rfl (c_look_at_many (DD k))
noncomputable def r_ends_behind (d : Str → List O → RF) : FS := (sSeq (sAsg (bTup 2 (bCons (bName 2) (bCons (bName 3) bNil))) (lft (eIx (eVar 1) (eK (.int 0))))) (sSeq (sSet 4 (lft (eLc (iEnA (aCons (eVar 0) aNil)) (bTup 2 (bCons (bName 5) (bCons (bName 6) bNil))) bYes (eFn dTup (aCons (eOp dAdd (eVar 2) (eVar 6)) (aCons (eOp dAdd (eVar 3) (eFn dTup (aCons (eVar 5) aNil))) aNil))) [5, 6]))) (sSeq (sRet [] (lft (eFn dSorted2 (rCons (eOp dAdd (eSl (eVar 1) (oSo (eK (.int 1))) oNo) (eVar 4)) aNil)))) sNx)))
theorem c_ends_behind (d : Str → List O → RF) : compB 200 (T.pg.ctx d f_ends_behind) f_ends_behind.body = some (r_ends_behind d) := by kernel_rfl
theorem e_ends_behind {m : Nat} (h : 1 ≤ m) : DD m "ends_behind" = runF [] 7 (r_ends_behind (DD (m - 1))) := by
  obtain ⟨k, rfl⟩ : ∃ k, m = k + 1 := ⟨m - 1, by omega⟩
  exact Pg.den_eq rfl (c_ends_behind (DD k))
noncomputable def r_grown (d : Str → List O → RF) : FS := (sSeq (sOwn 2 (lft (eFn dLst aNil))) (sSeq (sOwn 3 (lft (eFn dLst (aCons (eFn dTup (aCons (eK (.int 0)) (aCons (eFn dTup aNil) aNil))) aNil)))) (sSeq (sFor (iRng (rCons (eVar 1) aNil)) (bName 4) (sSeq (sDrop (xMut "list" muApp (eVar 2) (oCons (eIx (eVar 3) (eK (.int 0))) oNil))) (sSeq (sOwn 3 (lft (eCall (d "ends_behind") (oCons (eVar 0) (oCons (eVar 3) oNil))))) sNx))) (sSeq (sRet [] (xPck [] (oCons (eVar 2) (oCons (eVar 3) oNil)))) sNx))))
theorem c_grown (d : Str → List O → RF) : compB 200 (T.pg.ctx d f_grown) f_grown.body = some (r_grown d) := by kernel_rfl
theorem e_grown {m : Nat} (h : 1 ≤ m) : DD m "grown" = runF [] 5 (r_grown (DD (m - 1))) := by
  obtain ⟨k, rfl⟩ : ∃ k, m = k + 1 := ⟨m - 1, by omega⟩
  exact Pg.den_eq rfl (c_grown (DD k))
noncomputable def r_cheapest_knots (d : Str → List O → RF) : FS := (sSeq (sDrop (lft (eCall (d "look_at_many") (oCons (eVar 1) (oCons (eK (.int 0)) oNil))))) (sSeq (sRet [] (lft (eIxO 0 (eCall (d "grown") (oCons (eVar 0) (oCons (eVar 1) oNil)))))) sNx))
theorem c_cheapest_knots (d : Str → List O → RF) : compB 200 (T.pg.ctx d f_cheapest_knots) f_cheapest_knots.body = some (r_cheapest_knots d) := by kernel_rfl
theorem e_cheapest_knots {m : Nat} (h : 1 ≤ m) : DD m "cheapest_knots" = runF [] 2 (r_cheapest_knots (DD (m - 1))) := by
  obtain ⟨k, rfl⟩ : ∃ k, m = k + 1 := ⟨m - 1, by omega⟩
  exact Pg.den_eq rfl (c_cheapest_knots (DD k))
noncomputable def r_ends_of (d : Str → List O → RF) : FS := (sSeq (sDrop (lft (eCall (d "look_at_many") (oCons (eVar 1) (oCons (eK (.int 0)) oNil))))) (sSeq (sRet [] (lft (eIxO 1 (eCall (d "grown") (oCons (eVar 0) (oCons (eVar 1) oNil)))))) sNx))
theorem c_ends_of (d : Str → List O → RF) : compB 200 (T.pg.ctx d f_ends_of) f_ends_of.body = some (r_ends_of d) := by kernel_rfl
theorem e_ends_of {m : Nat} (h : 1 ≤ m) : DD m "ends_of" = runF [] 2 (r_ends_of (DD (m - 1))) := by
  obtain ⟨k, rfl⟩ : ∃ k, m = k + 1 := ⟨m - 1, by omega⟩
  exact Pg.den_eq rfl (c_ends_of (DD k))
noncomputable def r_law_cell_at (d : Str → List O → RF) : FS := (sSeq (sIf (bE (eOp dLt (eVar 1) (eFn dLen (rCons (eVar 0) aNil)))) (sSeq (sRet [] (lft (eIx (eVar 0) (eVar 1)))) sNx) sNx) (sSeq (sRet [] (lft (eK (.int 0)))) sNx))
theorem c_law_cell_at (d : Str → List O → RF) : compB 200 (T.pg.ctx d f_law_cell_at) f_law_cell_at.body = some (r_law_cell_at d) := by kernel_rfl
theorem e_law_cell_at {m : Nat} (h : 1 ≤ m) : DD m "_law_cell_at" = runF [] 2 (r_law_cell_at (DD (m - 1))) := by
  obtain ⟨k, rfl⟩ : ∃ k, m = k + 1 := ⟨m - 1, by omega⟩
  exact Pg.den_eq rfl (c_law_cell_at (DD k))
noncomputable def r_law_whole (d : Str → List O → RF) : FS := (sSeq (sRet [] (lft (eAnd (bE (eUn (dIsT "int") (eVar 0))) (eNot (bE (eUn (dIsT "bool") (eVar 0))))))) sNx)
theorem c_law_whole (d : Str → List O → RF) : compB 200 (T.pg.ctx d f_law_whole) f_law_whole.body = some (r_law_whole d) := by kernel_rfl
theorem e_law_whole {m : Nat} (h : 1 ≤ m) : DD m "_law_whole" = runF [] 1 (r_law_whole (DD (m - 1))) := by
  obtain ⟨k, rfl⟩ : ∃ k, m = k + 1 := ⟨m - 1, by omega⟩
  exact Pg.den_eq rfl (c_law_whole (DD k))
noncomputable def r_law_amount (d : Str → List O → RF) : FS := (sSeq (sSet 1 (lft (eOp dDiv (eVar 0) (eK (.int 4))))) (sSeq (sIf (bE (eOp dEq (eOp dMod (eVar 0) (eK (.int 4))) (eK (.int 0)))) (sSeq (sRet [] (lft (eOp dAdd (eK (.int 1)) (eOp dMod (eVar 1) (eOp dPow (eK (.int 10)) (eK (.int 30))))))) sNx) sNx) (sSeq (sIf (bE (eOp dEq (eOp dMod (eVar 0) (eK (.int 4))) (eK (.int 1)))) (sSeq (sRet [] (lft (eOp dSub (eOp dPow (eK (.int 10)) (eK (.int 30))) (eOp dMod (eVar 1) (eK (.int 5)))))) sNx) sNx) (sSeq (sIf (bE (eOp dEq (eOp dMod (eVar 0) (eK (.int 4))) (eK (.int 2)))) (sSeq (sRet [] (lft (eOp dAdd (eK (.int 1)) (eOp dMod (eVar 1) (eK (.int 3)))))) sNx) sNx) (sSeq (sRet [] (lft (eOp dAdd (eK (.int 1)) (eOp dMod (eVar 1) (eK (.int 1000)))))) sNx)))))
theorem c_law_amount (d : Str → List O → RF) : compB 200 (T.pg.ctx d f_law_amount) f_law_amount.body = some (r_law_amount d) := by kernel_rfl
theorem e_law_amount {m : Nat} (h : 1 ≤ m) : DD m "_law_amount" = runF [] 2 (r_law_amount (DD (m - 1))) := by
  obtain ⟨k, rfl⟩ : ∃ k, m = k + 1 := ⟨m - 1, by omega⟩
  exact Pg.den_eq rfl (c_law_amount (DD k))
noncomputable def r_law_prices (d : Str → List O → RF) : FS := (sSeq (sSet 1 (lft (eOp dAdd (eK (.int 2)) (eOp dMod (eCall (d "_law_cell_at") (oCons (eVar 0) (oCons (eK (.int 0)) oNil))) (eK (.int 5)))))) (sSeq (sRet [] (lft (eFn dTuple (rCons (eLc (iRng (rCons (eVar 1) aNil)) (bName 2) bYes (eCall (d "_law_amount") (oCons (eCall (d "_law_cell_at") (oCons (eVar 0) (oCons (eOp dAdd (eK (.int 2)) (eVar 2)) oNil))) oNil)) [2]) aNil)))) sNx))
theorem c_law_prices (d : Str → List O → RF) : compB 200 (T.pg.ctx d f_law_prices) f_law_prices.body = some (r_law_prices d) := by kernel_rfl
theorem e_law_prices {m : Nat} (h : 1 ≤ m) : DD m "_law_prices" = runF [] 3 (r_law_prices (DD (m - 1))) := by
  obtain ⟨k, rfl⟩ : ∃ k, m = k + 1 := ⟨m - 1, by omega⟩
  exact Pg.den_eq rfl (c_law_prices (DD k))
noncomputable def r_law_many (d : Str → List O → RF) : FS := (sSeq (sRet [] (lft (eIx (eFn dLst (aCons (eOp dMod (eOp dDiv (eVar 0) (eK (.int 3))) (eK (.int 9))) (aCons (eOp dMod (eOp dDiv (eVar 0) (eK (.int 3))) (eK (.int 61))) (aCons (eK (.int 60)) aNil)))) (eOp dMod (eVar 0) (eK (.int 3)))))) sNx)
theorem c_law_many (d : Str → List O → RF) : compB 200 (T.pg.ctx d f_law_many) f_law_many.body = some (r_law_many d) := by kernel_rfl
theorem e_law_many {m : Nat} (h : 1 ≤ m) : DD m "_law_many" = runF [] 1 (r_law_many (DD (m - 1))) := by
  obtain ⟨k, rfl⟩ : ∃ k, m = k + 1 := ⟨m - 1, by omega⟩
  exact Pg.den_eq rfl (c_law_many (DD k))
noncomputable def r_law_due (d : Str → List O → RF) : FS := (sSeq (sOwn 2 (lft (eDnew true))) (sSeq (sFor (iSeq (dE (eVar 1))) (bTup 2 (bCons (bName 3) (bCons (bName 4) bNil))) (sSeq (sSto muSet2 (lft (eK (.bl true))) (eVar 2) (eVar 4)) sNx)) (sSeq (sOwn 5 (lft (eLc (iSeq (rdE (eFn dLst (aCons (eFn dTup (aCons (eK (.int 0)) (aCons (eFn dTup aNil) aNil))) aNil)))) (bTup 2 (bCons (bName 3) (bCons (bName 4) bNil))) (bE (eTry (eIn true (eVar 4) (eVar 2)))) (eFn dTup (aCons (eVar 3) (aCons (eVar 4) aNil))) [3, 4]))) (sSeq (sFor (iSeq (dE (eVar 1))) (bTup 2 (bCons (bName 3) (bCons (bName 4) bNil))) (sSeq (sFor (iRng (rCons (eFn dLen (rCons (eVar 0) aNil)) aNil)) (bName 6) (sSeq (sIf (bE (eTry (eIn true (eOp dAdd (eVar 4) (eFn dTup (aCons (eVar 6) aNil))) (eVar 2)))) (sSeq (sDrop (xMut "list" muApp (eVar 5) (oCons (eFn dTup (aCons (eOp dAdd (eVar 3) (eIx (eVar 0) (eVar 6))) (aCons (eOp dAdd (eVar 4) (eFn dTup (aCons (eVar 6) aNil))) aNil))) oNil))) sNx) sNx) sNx)) sNx)) (sSeq (sRet [] (lft (eTry (eFn dSorted2 (rCons (eVar 5) aNil))))) sNx)))))
theorem c_law_due (d : Str → List O → RF) : compB 200 (T.pg.ctx d f_law_due) f_law_due.body = some (r_law_due d) := by kernel_rfl
theorem e_law_due {m : Nat} (h : 1 ≤ m) : DD m "_law_due" = runF [] 7 (r_law_due (DD (m - 1))) := by
  obtain ⟨k, rfl⟩ : ∃ k, m = k + 1 := ⟨m - 1, by omega⟩
  exact Pg.den_eq rfl (c_law_due (DD k))
noncomputable def r_law_pair_whole (d : Str → List O → RF) : FS := (sSeq (sRet [] (lft (eAnd (bE (eCall (d "_law_whole") (oCons (eIx (eVar 0) (eK (.int 0))) oNil))) (eFn dAll (rCons (eLc (iSeq (rdE (eIx (eVar 0) (eK (.int 1))))) (bName 1) bYes (eCall (d "_law_whole") (oCons (eVar 1) oNil)) [1]) aNil))))) sNx)
theorem c_law_pair_whole (d : Str → List O → RF) : compB 200 (T.pg.ctx d f_law_pair_whole) f_law_pair_whole.body = some (r_law_pair_whole d) := by kernel_rfl
theorem e_law_pair_whole {m : Nat} (h : 1 ≤ m) : DD m "_law_pair_whole" = runF [] 2 (r_law_pair_whole (DD (m - 1))) := by
  obtain ⟨k, rfl⟩ : ∃ k, m = k + 1 := ⟨m - 1, by omega⟩
  exact Pg.den_eq rfl (c_law_pair_whole (DD k))
noncomputable def r_law_apart (d : Str → List O → RF) : FS := (sSeq (sSet 1 (lft (eFn dSorted2 (rCons (eVar 0) aNil)))) (sSeq (sFor (iRng (rCons (eK (.int 1)) (rCons (eFn dLen (rCons (eVar 1) aNil)) aNil))) (bName 2) (sSeq (sIf (bE (eOp dEq (eSl (eIx (eVar 1) (eVar 2)) oNo (oSo (eFn dLen (rCons (eIx (eVar 1) (eOp dSub (eVar 2) (eK (.int 1)))) aNil)))) (eIx (eVar 1) (eOp dSub (eVar 2) (eK (.int 1)))))) (sSeq (sRet [] (lft (eK (.bl false)))) sNx) sNx) sNx)) (sSeq (sRet [] (lft (eK (.bl true)))) sNx)))
theorem c_law_apart (d : Str → List O → RF) : compB 200 (T.pg.ctx d f_law_apart) f_law_apart.body = some (r_law_apart d) := by kernel_rfl
theorem e_law_apart {m : Nat} (h : 1 ≤ m) : DD m "_law_apart" = runF [] 3 (r_law_apart (DD (m - 1))) := by
  obtain ⟨k, rfl⟩ : ∃ k, m = k + 1 := ⟨m - 1, by omega⟩
  exact Pg.den_eq rfl (c_law_apart (DD k))
noncomputable def r_law (d : Str → List O → RF) : FS := (sSeq (sSet 1 (lft (eCall (d "_law_prices") (oCons (eVar 0) oNil)))) (sSeq (sFor (iSeq (dE (eOp dAdd (eSl (eVar 0) (oSo (eK (.int 8))) (oSo (eK (.int 11)))) (eFn dLst (aCons (eK (.int 0)) aNil))))) (bName 2) (sSeq (sSet 3 (lft (eCall (d "_law_many") (oCons (eVar 2) oNil)))) (sSeq (sOwn 4 (lft (eCall (d "ends_of") (oCons (eVar 1) (oCons (eVar 3) oNil))))) (sSeq (sSet 5 (lft (eCall (d "_law_due") (oCons (eVar 1) (oCons (eCall (d "cheapest_knots") (oCons (eVar 1) (oCons (eVar 3) oNil))) oNil))))) (sSeq (sIf (bOr (bNot (bE (eTry (eUn (dIsT "list") (eVar 4))))) (bOr (bE (eTry (eOp dNe (eVar 4) (eVar 5)))) (bE (eOp dNe (eTry (eFn dLen (rCons (eVar 4) aNil))) (eOp dAdd (eOp dMul (eVar 3) (eOp dSub (eFn dLen (rCons (eVar 1) aNil)) (eK (.int 1)))) (eK (.int 1))))))) (sSeq (sRet [] (lft (eK (.bl false)))) sNx) sNx) (sSeq (sIf (bOr (bNot (bE (eCall (d "_law_apart") (oCons (eTry (eLc (iSeq (rdE (eVar 4))) (bName 6) bYes (eIx (eVar 6) (eK (.int 1))) [6])) oNil)))) (bNot (bE (eFn dAll (rCons (eTry (eLc (iSeq (rdE (eVar 4))) (bName 6) bYes (eCall (d "_law_pair_whole") (oCons (eVar 6) oNil)) [6])) aNil))))) (sSeq (sRet [] (lft (eK (.bl false)))) sNx) sNx) (sSeq (sDrop (xMut "list" muClr (eVar 4) oNil)) (sSeq (sIf (bE (eOp dNe (eCall (d "ends_of") (oCons (eVar 1) (oCons (eVar 3) oNil))) (eVar 5))) (sSeq (sRet [] (lft (eK (.bl false)))) sNx) sNx) sNx)))))))) (sSeq (sRet [] (lft (eK (.bl true)))) sNx)))
theorem c_law (d : Str → List O → RF) : compB 200 (T.pg.ctx d f_law) f_law.body = some (r_law d) := by kernel_rfl
theorem e_law {m : Nat} (h : 1 ≤ m) : DD m "law" = runF [] 7 (r_law (DD (m - 1))) := by
  obtain ⟨k, rfl⟩ : ∃ k, m = k + 1 := ⟨m - 1, by omega⟩
  exact Pg.den_eq rfl (c_law (DD k))
end Z
namespace Z
open PySem L2 FL
noncomputable def t_look_at_many (x_many : Int) (x_least : Int) : Option (Ou Unit) := if (decide (x_many < x_least)) = true then some (.exc ("BadNumber" : Str)) else if (decide ((60 : Int) < x_many)) = true then some (.exc ("TooMany" : Str)) else some (.ok ())
theorem s_look_at_many {m : Nat} (hm : 1 ≤ m) (x_many : Int) (x_least : Int) (v : (Ou Unit)) (hv : t_look_at_many x_many x_least = some v) : DD m "look_at_many" [.dat (D.int x_many), .dat (D.int x_least)] = rfO (fun _ => .dat .non) [.dat (D.int x_many), .dat (D.int x_least)] v := by
  rw [e_look_at_many (by omega)]
  refine run_SoXN (t := t_look_at_many x_many x_least) ?_ hv
  show So (Xq (fun _ r => RtN [] [.dat (D.int x_many), .dat (D.int x_least)] r) [] [.dat (D.int x_many), .dat (D.int x_least)]) _ (r_look_at_many (DD (m - 1)) [some (.dat (D.int x_many)), some (.dat (D.int x_least))])
  unfold t_look_at_many r_look_at_many
  refine so_top ?_
  refine so_if (b_e (l_op (r_d (l_var rfl)) (r_d (l_var rfl)) rfl)) (fun hc => ?_) (fun hc => ?_)
  · exact so_stop (r := .exc ("BadNumber" : Str) [] _) rfl rfl rfl (so_pure (show Xq _ _ _ (Ou.exc _ _) _ from ⟨_, rfl, outs_d [D.int x_many, D.int x_least] (by simp)⟩))
  · refine so_end ?_
    refine so_if (b_e (l_op (r_d (l_var rfl)) (r_d l_k) rfl)) (fun hc => ?_) (fun hc => ?_)
    · exact so_stop (r := .exc ("TooMany" : Str) [] _) rfl rfl rfl (so_pure (show Xq _ _ _ (Ou.exc _ _) _ from ⟨_, rfl, outs_d [D.int x_many, D.int x_least] (by simp)⟩))
    · refine so_end ?_
      exact so_end (so_pure (show Xq _ _ _ (Ou.ok _) _ from ⟨_, .inl rfl, outs_d [D.int x_many, D.int x_least] (by simp)⟩))
noncomputable def t_ends_behind (x_prices : (List Int)) (x_ends : (List (Int × (List Int)))) : Option (List (Int × (List Int))) := (atI x_ends (0 : Int)).bind fun u1 => (lcT (enumT x_prices) (fun (_ : (Int × Int)) => some true) (fun (y3 : (Int × Int)) => (catT u1.2 [y3.1]).bind fun u4 => some ((u1.1 + y3.2), u4))).bind fun u6 => (catT (cutD x_ends (some (1 : Int)) none) u6).bind fun u8 => some (sortO (lt2 ltI (ltL ltI)) u8)
theorem s_ends_behind {m : Nat} (hm : 1 ≤ m) (x_prices : (List Int)) (x_ends : (List (Int × (List Int)))) (v : (List (Int × (List Int)))) (hv : t_ends_behind x_prices x_ends = some v) : DD m "ends_behind" [.dat ((cT D.int) x_prices), .dat ((cL (cP D.int (cT D.int))) x_ends)] = .ok ((hL (hD (cP D.int (cT D.int)))) v) [.dat ((cT D.int) x_prices), .dat ((cL (cP D.int (cT D.int))) x_ends)] := by
  rw [e_ends_behind (by omega)]
  refine run_So (EO := (hL (hD (cP D.int (cT D.int))))) (EK := fun _ => [.dat ((cT D.int) x_prices), .dat ((cL (cP D.int (cT D.int))) x_ends)]) (t := t_ends_behind x_prices x_ends) ?_ hv
  show So (Rt [] [.dat ((cT D.int) x_prices), .dat ((cL (cP D.int (cT D.int))) x_ends)] (hL (hD (cP D.int (cT D.int)))) (fun _ => [.dat ((cT D.int) x_prices), .dat ((cL (cP D.int (cT D.int))) x_ends)])) _ (r_ends_behind (DD (m - 1)) [some (.dat ((cT D.int) x_prices)), some (.dat ((cL (cP D.int (cT D.int))) x_ends)), none, none, none, none, none])
  unfold t_ends_behind r_ends_behind
  refine so_top ?_
  refine so_bind fun u1 h2 => ?_
  refine so_st (ρ1 := [some (.dat ((cT D.int) x_prices)), some (.dat ((cL (cP D.int (cT D.int))) x_ends)), some (.dat (D.int u1.1)), some (.dat ((cT D.int) u1.2)), none, none, none]) (st_asg (l_ix (l_var rfl) (r_d l_k) (ix_L (c := (cP D.int (cT D.int))) h2)) rfl) ?_
  refine so_bind fun u6 h7 => ?_
  refine so_st (ρ1 := [some (.dat ((cT D.int) x_prices)), some (.dat ((cL (cP D.int (cT D.int))) x_ends)), some (.dat (D.int u1.1)), some (.dat ((cT D.int) u1.2)), some (.dat ((cL (cP D.int (cT D.int))) u6)), none, none]) (st_setn (hh := (hL (hD (cP D.int (cT D.int))))) (ev_lc (h := (hD (cP D.int (cT D.int)))) (q := (cP D.int D.int)) (i_enT (c := D.int) (d_d (l_var rfl))) (fun y3 _ pv hp => by obtain rfl := Option.some.inj hp; exact ⟨[some (.dat ((cT D.int) x_prices)), some (.dat ((cL (cP D.int (cT D.int))) x_ends)), some (.dat (D.int u1.1)), some (.dat ((cT D.int) u1.2)), none, some (.dat (D.int y3.1)), some (.dat (D.int y3.2))], rfl, rfl, fun _ v hv => by obtain ⟨u4, h5, hv⟩ := ob hv; obtain rfl := Option.some.inj hv; exact (l_fn (a_cons (d_d (l_op (r_d (l_var rfl)) (r_d (l_var rfl)) rfl)) (a_cons (d_d (l_op (r_d (l_var rfl)) (r_d (l_fn (a_cons (d_d (l_var rfl)) a_nil) (tup_ok _ (by simp)))) (cat_T (c := D.int) h5))) a_nil)) (tup_ok _ (by simp)))⟩) h7)) ?_
  refine so_bind fun u8 h9 => ?_
  exact so_rt (st_ret (l_fn (r_cons (r_n (hh := (hL (hD (cP D.int (cT D.int))))) (l_op (r_n (hh := (hL (hD (cP D.int (cT D.int))))) (l_sl (r_d (l_var rfl)) (o_so (r_d l_k)) o_no (sl_L (c := (cP D.int (cT D.int))) _ _))) (r_d (l_var rfl)) (cat_L (c := (cP D.int (cT D.int))) h9))) a_nil) (sort_o (a := (cP D.int (cT D.int))) (by decide) (fun _ _ => rfl) (fun _ => ⟨_, _, rfl⟩) _))) (so_pure ⟨_, _, rfl, rfl, outs_d [(cT D.int) x_prices, (cL (cP D.int (cT D.int))) x_ends] (by simp)⟩)
noncomputable def tb_grown_1 (c_prices : (List Int)) (e_1 : Int) (k_knots : (List (Int × (List Int)))) (k_ends : (List (Int × (List Int)))) : Option ((List (Int × (List Int))) × (List (Int × (List Int)))) := (atI k_ends (0 : Int)).bind fun u6 => (appT k_knots u6).bind fun x_knots_1 => (t_ends_behind c_prices k_ends).bind fun u8 => some (x_knots_1, u8)
noncomputable def t_grown (x_prices : (List Int)) (x_many : Int) : Option ((List (Int × (List Int))) × (List (Int × (List Int)))) := (some ([] : (List (Int × (List Int))))).bind fun x_knots => (some [((0 : Int), ([] : (List Int)))]).bind fun x_ends => (rngT (0 : Int) x_many).bind fun u3 => (forT (fun (x : Int) (s : ((List (Int × (List Int))) × (List (Int × (List Int))))) => tb_grown_1 x_prices x s.1 s.2) u3 (x_knots, x_ends)).bind fun (w10 : ((List (Int × (List Int))) × (List (Int × (List Int))))) => some (w10.1, w10.2)
theorem s_grown {m : Nat} (hm : 2 ≤ m) (x_prices : (List Int)) (x_many : Int) (v : ((List (Int × (List Int))) × (List (Int × (List Int))))) (hv : t_grown x_prices x_many = some v) : DD m "grown" [.dat ((cT D.int) x_prices), .dat (D.int x_many)] = .ok ((hQ (hL (hD (cP D.int (cT D.int)))) (hL (hD (cP D.int (cT D.int))))) v) [.dat ((cT D.int) x_prices), .dat (D.int x_many)] := by
  rw [e_grown (by omega)]
  refine run_So (EO := (hQ (hL (hD (cP D.int (cT D.int)))) (hL (hD (cP D.int (cT D.int)))))) (EK := fun _ => [.dat ((cT D.int) x_prices), .dat (D.int x_many)]) (t := t_grown x_prices x_many) ?_ hv
  show So (Rt [] [.dat ((cT D.int) x_prices), .dat (D.int x_many)] (hQ (hL (hD (cP D.int (cT D.int)))) (hL (hD (cP D.int (cT D.int))))) (fun _ => [.dat ((cT D.int) x_prices), .dat (D.int x_many)])) _ (r_grown (DD (m - 1)) [some (.dat ((cT D.int) x_prices)), some (.dat (D.int x_many)), none, none, none])
  unfold t_grown r_grown
  refine so_top ?_
  refine so_bind fun x_knots h1 => ?_
  refine so_st (ρ1 := [some (.dat ((cT D.int) x_prices)), some (.dat (D.int x_many)), some ((hL (hD (cP D.int (cT D.int)))) x_knots), none, none]) (by obtain rfl := Option.some.inj h1; exact (st_own (l_fn a_nil lst_nil))) ?_
  refine so_bind fun x_ends h2 => ?_
  refine so_st (ρ1 := [some (.dat ((cT D.int) x_prices)), some (.dat (D.int x_many)), some ((hL (hD (cP D.int (cT D.int)))) x_knots), some ((hL (hD (cP D.int (cT D.int)))) x_ends), none]) (by obtain rfl := Option.some.inj h2; exact (st_own (l_fn (a_cons (d_d (l_fn (a_cons (d_d l_k) (a_cons (d_d (l_fn a_nil (tup_ok [] (by simp)))) a_nil)) (tup_ok _ (by simp)))) a_nil) (lst_ok (c := (cP D.int (cT D.int))) [((0 : Int), ([] : (List Int)))] (by simp))))) ?_
  refine so_bind fun u3 h4 => ?_
  refine so_for (q := D.int) (E := fun (s : ((List (Int × (List Int))) × (List (Int × (List Int))))) ρ => ∃ (q_1_turn : Option O), ρ = [some (.dat ((cT D.int) x_prices)), some (.dat (D.int x_many)), some ((hL (hD (cP D.int (cT D.int)))) s.1), some ((hL (hD (cP D.int (cT D.int)))) s.2), q_1_turn]) (i_rng1 (r_d (l_var rfl)) h4) ?_ ⟨_, rfl⟩ ?_
  · rintro e1 s1 ρ ⟨q_1_turn, rfl⟩
    refine ⟨[some (.dat ((cT D.int) x_prices)), some (.dat (D.int x_many)), some ((hL (hD (cP D.int (cT D.int)))) s1.1), some ((hL (hD (cP D.int (cT D.int)))) s1.2), some (.dat (D.int e1))], rfl, ?_⟩
    show So _ (tb_grown_1 x_prices e1 s1.1 s1.2) _
    unfold tb_grown_1
    refine so_bind fun u6 h7 => ?_
    refine so_bind fun x_knots_1 h5 => ?_
    refine so_st (ρ1 := [some (.dat ((cT D.int) x_prices)), some (.dat (D.int x_many)), some ((hL (hD (cP D.int (cT D.int)))) x_knots_1), some ((hL (hD (cP D.int (cT D.int)))) s1.2), some (.dat (D.int e1))]) (st_app (hh := (hD (cP D.int (cT D.int)))) (l := s1.1) (x := u6) rfl (l_ixp (c := (cP D.int (cT D.int))) (l := s1.2) rfl (r_d l_k) h7) h5) ?_
    refine so_bind fun u8 h9 => ?_
    refine so_st (ρ1 := [some (.dat ((cT D.int) x_prices)), some (.dat (D.int x_many)), some ((hL (hD (cP D.int (cT D.int)))) x_knots_1), some ((hL (hD (cP D.int (cT D.int)))) u8), some (.dat (D.int e1))]) (st_own (l_call (ar_d (l_var rfl) (ar_p (hh := (hD (cP D.int (cT D.int)))) (l := s1.2) rfl ar_nil)) (s_ends_behind (m := m - 1) (by omega) x_prices s1.2 u8 h9) (.inr (Cl.cl (h := (hL (hD (cP D.int (cT D.int))))) u8)))) ?_
    exact so_end (so_pure (Goes.nx ⟨_, rfl⟩))
  · rintro w10 ρ ⟨j11, rfl⟩
    exact so_rt (st_retpk (tk_p (l_own rfl) rfl (by decide) (tk_p (l_own rfl) rfl (by decide) tk_nil)) (by simp)) (so_pure ⟨_, _, rfl, rfl, outs_d [(cT D.int) x_prices, D.int x_many] (by simp)⟩)
noncomputable def t_cheapest_knots (x_prices : (List Int)) (x_many : Int) : Option (Ou (List (Int × (List Int)))) := bindX (t_look_at_many x_many (0 : Int)) (fun c fs => some (.exc c fs)) fun u1 => (t_grown x_prices x_many).bind fun u3 => some (.ok u3.1)
theorem s_cheapest_knots {m : Nat} (hm : 3 ≤ m) (x_prices : (List Int)) (x_many : Int) (v : (Ou (List (Int × (List Int))))) (hv : t_cheapest_knots x_prices x_many = some v) : DD m "cheapest_knots" [.dat ((cT D.int) x_prices), .dat (D.int x_many)] = rfO (hL (hD (cP D.int (cT D.int)))) [.dat ((cT D.int) x_prices), .dat (D.int x_many)] v := by
  rw [e_cheapest_knots (by omega)]
  refine run_SoX (EO := (hL (hD (cP D.int (cT D.int))))) (t := t_cheapest_knots x_prices x_many) ?_ hv
  show So (Xq (Rt [] [.dat ((cT D.int) x_prices), .dat (D.int x_many)] (hL (hD (cP D.int (cT D.int)))) (fun _ => [.dat ((cT D.int) x_prices), .dat (D.int x_many)])) [] [.dat ((cT D.int) x_prices), .dat (D.int x_many)]) _ (r_cheapest_knots (DD (m - 1)) [some (.dat ((cT D.int) x_prices)), some (.dat (D.int x_many))])
  unfold t_cheapest_knots r_cheapest_knots
  refine so_top ?_
  refine so_bindX (fun u1 h2 => ?_) (fun c fs h2 => so_stop (r := .exc c (xF fs) _) (x_drop (l_callX (ar_d (l_var rfl) (ar_d l_k ar_nil)) (s_look_at_many (m := m - 1) (by omega) x_many (0 : Int) (.exc c fs) h2))) rfl rfl (so_pure (show Xq _ _ _ (Ou.exc _ _) _ from ⟨_, rfl, outs_d [(cT D.int) x_prices, D.int x_many] (by simp)⟩)))
  refine so_st (ρ1 := [some (.dat ((cT D.int) x_prices)), some (.dat (D.int x_many))]) (st_drop (l_call (ar_d (l_var rfl) (ar_d l_k ar_nil)) (s_look_at_many (m := m - 1) (by omega) x_many (0 : Int) (.ok u1) h2) (.inl rfl))) ?_
  refine so_bind fun u3 h4 => ?_
  exact so_rt (st_ret (l_ixO (l := [(hL (hD (cP D.int (cT D.int)))) u3.1, (hL (hD (cP D.int (cT D.int)))) u3.2]) (j := 0) (l_call (ar_d (l_var rfl) (ar_d (l_var rfl) ar_nil)) (s_grown (m := m - 1) (by omega) x_prices x_many u3 h4) (.inl rfl)) rfl rfl)) (so_pure (show Xq _ _ _ (Ou.ok _) _ from ⟨_, _, rfl, rfl, outs_d [(cT D.int) x_prices, D.int x_many] (by simp)⟩))
noncomputable def t_ends_of (x_prices : (List Int)) (x_many : Int) : Option (Ou (List (Int × (List Int)))) := bindX (t_look_at_many x_many (0 : Int)) (fun c fs => some (.exc c fs)) fun u1 => (t_grown x_prices x_many).bind fun u3 => some (.ok u3.2)
theorem s_ends_of {m : Nat} (hm : 3 ≤ m) (x_prices : (List Int)) (x_many : Int) (v : (Ou (List (Int × (List Int))))) (hv : t_ends_of x_prices x_many = some v) : DD m "ends_of" [.dat ((cT D.int) x_prices), .dat (D.int x_many)] = rfO (hL (hD (cP D.int (cT D.int)))) [.dat ((cT D.int) x_prices), .dat (D.int x_many)] v := by
  rw [e_ends_of (by omega)]
  refine run_SoX (EO := (hL (hD (cP D.int (cT D.int))))) (t := t_ends_of x_prices x_many) ?_ hv
  show So (Xq (Rt [] [.dat ((cT D.int) x_prices), .dat (D.int x_many)] (hL (hD (cP D.int (cT D.int)))) (fun _ => [.dat ((cT D.int) x_prices), .dat (D.int x_many)])) [] [.dat ((cT D.int) x_prices), .dat (D.int x_many)]) _ (r_ends_of (DD (m - 1)) [some (.dat ((cT D.int) x_prices)), some (.dat (D.int x_many))])
  unfold t_ends_of r_ends_of
  refine so_top ?_
  refine so_bindX (fun u1 h2 => ?_) (fun c fs h2 => so_stop (r := .exc c (xF fs) _) (x_drop (l_callX (ar_d (l_var rfl) (ar_d l_k ar_nil)) (s_look_at_many (m := m - 1) (by omega) x_many (0 : Int) (.exc c fs) h2))) rfl rfl (so_pure (show Xq _ _ _ (Ou.exc _ _) _ from ⟨_, rfl, outs_d [(cT D.int) x_prices, D.int x_many] (by simp)⟩)))
  refine so_st (ρ1 := [some (.dat ((cT D.int) x_prices)), some (.dat (D.int x_many))]) (st_drop (l_call (ar_d (l_var rfl) (ar_d l_k ar_nil)) (s_look_at_many (m := m - 1) (by omega) x_many (0 : Int) (.ok u1) h2) (.inl rfl))) ?_
  refine so_bind fun u3 h4 => ?_
  exact so_rt (st_ret (l_ixO (l := [(hL (hD (cP D.int (cT D.int)))) u3.1, (hL (hD (cP D.int (cT D.int)))) u3.2]) (j := 1) (l_call (ar_d (l_var rfl) (ar_d (l_var rfl) ar_nil)) (s_grown (m := m - 1) (by omega) x_prices x_many u3 h4) (.inl rfl)) rfl rfl)) (so_pure (show Xq _ _ _ (Ou.ok _) _ from ⟨_, _, rfl, rfl, outs_d [(cT D.int) x_prices, D.int x_many] (by simp)⟩))
noncomputable def t_law_cell_at (x_script : (List Int)) (x_k : Int) : Option Int := if (decide (x_k < (x_script.length : Int))) = true then (atI x_script x_k).bind fun u1 => some u1 else some (0 : Int)
theorem s_law_cell_at {m : Nat} (hm : 1 ≤ m) (x_script : (List Int)) (x_k : Int) (v : Int) (hv : t_law_cell_at x_script x_k = some v) : DD m "_law_cell_at" [.dat (cS x_script), .dat (D.int x_k)] = .ok ((hD D.int) v) [.dat (cS x_script), .dat (D.int x_k)] := by
  rw [e_law_cell_at (by omega)]
  refine run_So (EO := (hD D.int)) (EK := fun _ => [.dat (cS x_script), .dat (D.int x_k)]) (t := t_law_cell_at x_script x_k) ?_ hv
  show So (Rt [] [.dat (cS x_script), .dat (D.int x_k)] (hD D.int) (fun _ => [.dat (cS x_script), .dat (D.int x_k)])) _ (r_law_cell_at (DD (m - 1)) [some (.dat (cS x_script)), some (.dat (D.int x_k))])
  unfold t_law_cell_at r_law_cell_at
  refine so_top ?_
  refine so_if (b_e (l_op (r_d (l_var rfl)) (r_d (l_fn (r_cons (r_d (l_var rfl)) a_nil) (len_S))) rfl)) (fun hc => ?_) (fun hc => ?_)
  · refine so_bind fun u1 h2 => ?_
    exact so_rt (st_ret (l_ix (l_var rfl) (r_d (l_var rfl)) (ix_S h2))) (so_pure ⟨_, _, rfl, rfl, outs_d [cS x_script, D.int x_k] (by simp)⟩)
  · refine so_end ?_
    exact so_rt (st_ret l_k) (so_pure ⟨_, _, rfl, rfl, outs_d [cS x_script, D.int x_k] (by simp)⟩)
noncomputable def t_law_whole (x_found : (Option Int)) : Option Bool := some ((x_found.isSome) && (!false))
theorem s_law_whole {m : Nat} (hm : 1 ≤ m) (x_found : (Option Int)) (v : Bool) (hv : t_law_whole x_found = some v) : DD m "_law_whole" [.dat ((cO D.int) x_found)] = .ok ((hD D.bl) v) [.dat ((cO D.int) x_found)] := by
  rw [e_law_whole (by omega)]
  refine run_So (EO := (hD D.bl)) (EK := fun _ => [.dat ((cO D.int) x_found)]) (t := t_law_whole x_found) ?_ hv
  show So (Rt [] [.dat ((cO D.int) x_found)] (hD D.bl) (fun _ => [.dat ((cO D.int) x_found)])) _ (r_law_whole (DD (m - 1)) [some (.dat ((cO D.int) x_found))])
  unfold t_law_whole r_law_whole
  refine so_top ?_
  exact so_rt (st_ret (l_and (b_e (l_un (r_d (l_var rfl)) isT_Oi)) (fun _ => (l_not (b_e (l_un (r_d (l_var rfl)) isT_Ob)))))) (so_pure ⟨_, _, rfl, rfl, outs_d [(cO D.int) x_found] (by simp)⟩)
noncomputable def t_law_amount (x_cell : Int) : Option Int := (some (x_cell / (4 : Int))).bind fun x_rest => if (decide ((x_cell % (4 : Int)) = (0 : Int))) = true then some ((1 : Int) + (x_rest % (1000000000000000000000000000000 : Int))) else if (decide ((x_cell % (4 : Int)) = (1 : Int))) = true then some ((1000000000000000000000000000000 : Int) - (x_rest % (5 : Int))) else if (decide ((x_cell % (4 : Int)) = (2 : Int))) = true then some ((1 : Int) + (x_rest % (3 : Int))) else some ((1 : Int) + (x_rest % (1000 : Int)))
theorem s_law_amount {m : Nat} (hm : 1 ≤ m) (x_cell : Int) (v : Int) (hv : t_law_amount x_cell = some v) : DD m "_law_amount" [.dat (D.int x_cell)] = .ok ((hD D.int) v) [.dat (D.int x_cell)] := by
  rw [e_law_amount (by omega)]
  refine run_So (EO := (hD D.int)) (EK := fun _ => [.dat (D.int x_cell)]) (t := t_law_amount x_cell) ?_ hv
  show So (Rt [] [.dat (D.int x_cell)] (hD D.int) (fun _ => [.dat (D.int x_cell)])) _ (r_law_amount (DD (m - 1)) [some (.dat (D.int x_cell)), none])
  unfold t_law_amount r_law_amount
  refine so_top ?_
  refine so_bind fun x_rest h1 => ?_
  refine so_st (ρ1 := [some (.dat (D.int x_cell)), some (.dat (D.int x_rest))]) (by obtain rfl := Option.some.inj h1; exact (st_set (l_op (r_d (l_var rfl)) (r_d l_k) (div_l _ _ (by decide +kernel))))) ?_
  refine so_if (b_e (l_op (r_d (l_op (r_d (l_var rfl)) (r_d l_k) (mod_l _ _ (by decide +kernel)))) (r_d l_k) (eq_G (c := D.int) (u := (x_cell % (4 : Int))) (v := (0 : Int)) (by decide)))) (fun hc => ?_) (fun hc => ?_)
  · exact so_rt (st_ret (l_op (r_d l_k) (r_d (l_op (r_d (l_var rfl)) (r_d (l_op (r_d l_k) (r_d l_k) (pow_l 10 30 1000000000000000000000000000000 (by decide) (by decide +kernel)))) (mod_l _ _ (by decide +kernel)))) rfl)) (so_pure ⟨_, _, rfl, rfl, outs_d [D.int x_cell] (by simp)⟩)
  · refine so_end ?_
    refine so_if (b_e (l_op (r_d (l_op (r_d (l_var rfl)) (r_d l_k) (mod_l _ _ (by decide +kernel)))) (r_d l_k) (eq_G (c := D.int) (u := (x_cell % (4 : Int))) (v := (1 : Int)) (by decide)))) (fun hc => ?_) (fun hc => ?_)
    · exact so_rt (st_ret (l_op (r_d (l_op (r_d l_k) (r_d l_k) (pow_l 10 30 1000000000000000000000000000000 (by decide) (by decide +kernel)))) (r_d (l_op (r_d (l_var rfl)) (r_d l_k) (mod_l _ _ (by decide +kernel)))) rfl)) (so_pure ⟨_, _, rfl, rfl, outs_d [D.int x_cell] (by simp)⟩)
    · refine so_end ?_
      refine so_if (b_e (l_op (r_d (l_op (r_d (l_var rfl)) (r_d l_k) (mod_l _ _ (by decide +kernel)))) (r_d l_k) (eq_G (c := D.int) (u := (x_cell % (4 : Int))) (v := (2 : Int)) (by decide)))) (fun hc => ?_) (fun hc => ?_)
      · exact so_rt (st_ret (l_op (r_d l_k) (r_d (l_op (r_d (l_var rfl)) (r_d l_k) (mod_l _ _ (by decide +kernel)))) rfl)) (so_pure ⟨_, _, rfl, rfl, outs_d [D.int x_cell] (by simp)⟩)
      · refine so_end ?_
        exact so_rt (st_ret (l_op (r_d l_k) (r_d (l_op (r_d (l_var rfl)) (r_d l_k) (mod_l _ _ (by decide +kernel)))) rfl)) (so_pure ⟨_, _, rfl, rfl, outs_d [D.int x_cell] (by simp)⟩)
noncomputable def t_law_prices (x_script : (List Int)) : Option (List Int) := (t_law_cell_at x_script (0 : Int)).bind fun u1 => (some ((2 : Int) + (u1 % (5 : Int)))).bind fun x_letters => (rngT (0 : Int) x_letters).bind fun u4 => (lcT u4 (fun (_ : Int) => some true) (fun (y6 : Int) => (t_law_cell_at x_script ((2 : Int) + y6)).bind fun u7 => (t_law_amount u7).bind fun u9 => some u9)).bind fun u11 => some u11
theorem s_law_prices {m : Nat} (hm : 2 ≤ m) (x_script : (List Int)) (v : (List Int)) (hv : t_law_prices x_script = some v) : DD m "_law_prices" [.dat (cS x_script)] = .ok ((hD (cT D.int)) v) [.dat (cS x_script)] := by
  rw [e_law_prices (by omega)]
  refine run_So (EO := (hD (cT D.int))) (EK := fun _ => [.dat (cS x_script)]) (t := t_law_prices x_script) ?_ hv
  show So (Rt [] [.dat (cS x_script)] (hD (cT D.int)) (fun _ => [.dat (cS x_script)])) _ (r_law_prices (DD (m - 1)) [some (.dat (cS x_script)), none, none])
  unfold t_law_prices r_law_prices
  refine so_top ?_
  refine so_bind fun u1 h2 => ?_
  refine so_bind fun x_letters h3 => ?_
  refine so_st (ρ1 := [some (.dat (cS x_script)), some (.dat (D.int x_letters)), none]) (by obtain rfl := Option.some.inj h3; exact (st_set (l_op (r_d l_k) (r_d (l_op (r_d (l_call (ar_d (l_var rfl) (ar_d l_k ar_nil)) (s_law_cell_at (m := m - 1) (by omega) x_script (0 : Int) u1 h2) (.inl rfl))) (r_d l_k) (mod_l _ _ (by decide +kernel)))) rfl))) ?_
  refine so_bind fun u4 h5 => ?_
  refine so_bind fun u11 h12 => ?_
  exact so_rt (st_ret (l_fn (r_cons (r_n (hh := (hL (hD D.int))) (ev_lc (h := (hD D.int)) (q := D.int) (i_rng1 (r_d (l_var rfl)) h5) (fun y6 _ pv hp => by obtain rfl := Option.some.inj hp; exact ⟨[some (.dat (cS x_script)), some (.dat (D.int x_letters)), some (.dat (D.int y6))], rfl, rfl, fun _ v hv => by obtain ⟨u7, h8, hv⟩ := ob hv; obtain ⟨u9, h10, hv⟩ := ob hv; obtain rfl := Option.some.inj hv; exact (l_call (ar_d (l_call (ar_d (l_var rfl) (ar_d (l_op (r_d l_k) (r_d (l_var rfl)) rfl) ar_nil)) (s_law_cell_at (m := m - 1) (by omega) x_script ((2 : Int) + y6) u7 h8) (.inl rfl)) ar_nil) (s_law_amount (m := m - 1) (by omega) u7 u9 h10) (.inl rfl))⟩) h12)) a_nil) rfl)) (so_pure ⟨_, _, rfl, rfl, outs_d [cS x_script] (by simp)⟩)
noncomputable def t_law_many (x_cell : Int) : Option Int := (atI [((x_cell / (3 : Int)) % (9 : Int)), ((x_cell / (3 : Int)) % (61 : Int)), (60 : Int)] (x_cell % (3 : Int))).bind fun u1 => some u1
theorem s_law_many {m : Nat} (hm : 1 ≤ m) (x_cell : Int) (v : Int) (hv : t_law_many x_cell = some v) : DD m "_law_many" [.dat (D.int x_cell)] = .ok ((hD D.int) v) [.dat (D.int x_cell)] := by
  rw [e_law_many (by omega)]
  refine run_So (EO := (hD D.int)) (EK := fun _ => [.dat (D.int x_cell)]) (t := t_law_many x_cell) ?_ hv
  show So (Rt [] [.dat (D.int x_cell)] (hD D.int) (fun _ => [.dat (D.int x_cell)])) _ (r_law_many (DD (m - 1)) [some (.dat (D.int x_cell))])
  unfold t_law_many r_law_many
  refine so_top ?_
  refine so_bind fun u1 h2 => ?_
  exact so_rt (st_ret (l_ixn (hh := (hL (hD D.int))) (l_fn (a_cons (d_d (l_op (r_d (l_op (r_d (l_var rfl)) (r_d l_k) (div_l _ _ (by decide +kernel)))) (r_d l_k) (mod_l _ _ (by decide +kernel)))) (a_cons (d_d (l_op (r_d (l_op (r_d (l_var rfl)) (r_d l_k) (div_l _ _ (by decide +kernel)))) (r_d l_k) (mod_l _ _ (by decide +kernel)))) (a_cons (d_d l_k) a_nil))) (lst_ok (c := D.int) [((x_cell / (3 : Int)) % (9 : Int)), ((x_cell / (3 : Int)) % (61 : Int)), (60 : Int)] (by simp))) (r_d (l_op (r_d (l_var rfl)) (r_d l_k) (mod_l _ _ (by decide +kernel)))) (ix_L (c := D.int) h2))) (so_pure ⟨_, _, rfl, rfl, outs_d [D.int x_cell] (by simp)⟩)
noncomputable def tb_law_due_1 (e_1 : (Int × (List Int))) (k_met : (List ((List Int) × Bool))) : Option ((List ((List Int) × Bool))) := (putT k_met e_1.2 true).bind fun x_met => some x_met
noncomputable def tb_law_due_3 (c_met : (List ((List Int) × Bool))) (c_word : (List Int)) (c_price : Int) (c_prices : (List Int)) (e_3 : Int) (k_due : (List (Int × (List Int)))) : Option ((List (Int × (List Int)))) := (catT c_word [e_3]).bind fun u9 => (if (negB true (hasT u9 c_met)) = true then (atI c_prices e_3).bind fun u12 => (catT c_word [e_3]).bind fun u14 => (appT k_due ((c_price + u12), u14)).bind fun x_due => some x_due else some k_due).bind fun (x_due_1 : (List (Int × (List Int)))) => some x_due_1
noncomputable def tb_law_due_2 (c_prices : (List Int)) (c_met : (List ((List Int) × Bool))) (e_2 : (Int × (List Int))) (k_due : (List (Int × (List Int)))) : Option ((List (Int × (List Int)))) := (rngT (0 : Int) (c_prices.length : Int)).bind fun u7 => (forT (fun (x : Int) (s : ((List (Int × (List Int))))) => tb_law_due_3 c_met e_2.2 e_2.1 c_prices x s) u7 k_due).bind fun (x_due_2 : ((List (Int × (List Int))))) => some x_due_2
noncomputable def t_law_due (x_prices : (List Int)) (x_knots : (List (Int × (List Int)))) : Option (List (Int × (List Int))) := (forT (fun (x : (Int × (List Int))) (s : ((List ((List Int) × Bool)))) => tb_law_due_1 x s) x_knots []).bind fun (x_met_1 : ((List ((List Int) × Bool)))) => (lcT [((0 : Int), ([] : (List Int)))] (fun (y4 : (Int × (List Int))) => some (negB true (hasT y4.2 x_met_1))) (fun (y4 : (Int × (List Int))) => some (y4.1, y4.2))).bind fun u5 => (forT (fun (x : (Int × (List Int))) (s : ((List (Int × (List Int))))) => tb_law_due_2 x_prices x_met_1 x s) x_knots u5).bind fun (x_due_3 : ((List (Int × (List Int))))) => some (sortO (lt2 ltI (ltL ltI)) x_due_3)
theorem s_law_due {m : Nat} (hm : 1 ≤ m) (x_prices : (List Int)) (x_knots : (List (Int × (List Int)))) (v : (List (Int × (List Int)))) (hv : t_law_due x_prices x_knots = some v) : DD m "_law_due" [.dat ((cT D.int) x_prices), .dat ((cL (cP D.int (cT D.int))) x_knots)] = .ok ((hL (hD (cP D.int (cT D.int)))) v) [.dat ((cT D.int) x_prices), .dat ((cL (cP D.int (cT D.int))) x_knots)] := by
  rw [e_law_due (by omega)]
  refine run_So (EO := (hL (hD (cP D.int (cT D.int))))) (EK := fun _ => [.dat ((cT D.int) x_prices), .dat ((cL (cP D.int (cT D.int))) x_knots)]) (t := t_law_due x_prices x_knots) ?_ hv
  show So (Rt [] [.dat ((cT D.int) x_prices), .dat ((cL (cP D.int (cT D.int))) x_knots)] (hL (hD (cP D.int (cT D.int)))) (fun _ => [.dat ((cT D.int) x_prices), .dat ((cL (cP D.int (cT D.int))) x_knots)])) _ (r_law_due (DD (m - 1)) [some (.dat ((cT D.int) x_prices)), some (.dat ((cL (cP D.int (cT D.int))) x_knots)), none, none, none, none, none])
  unfold t_law_due r_law_due
  refine so_top ?_
  refine so_st (ρ1 := [some (.dat ((cT D.int) x_prices)), some (.dat ((cL (cP D.int (cT D.int))) x_knots)), some ((hW (hD D.bl)) []), none, none, none, none]) (st_own dnew_W) ?_
  refine so_for (q := (cP D.int (cT D.int))) (E := fun (s : ((List ((List Int) × Bool)))) ρ => ∃ (q_1_price : Option O) (q_1_word : Option O), ρ = [some (.dat ((cT D.int) x_prices)), some (.dat ((cL (cP D.int (cT D.int))) x_knots)), some ((hW (hD D.bl)) s), q_1_price, q_1_word, none, none]) (i_L (c := (cP D.int (cT D.int))) (d_d (l_var rfl))) ?_ ⟨_, _, rfl⟩ ?_
  · rintro e1 s1 ρ ⟨q_1_price, q_1_word, rfl⟩
    refine ⟨[some (.dat ((cT D.int) x_prices)), some (.dat ((cL (cP D.int (cT D.int))) x_knots)), some ((hW (hD D.bl)) s1), some (.dat (D.int e1.1)), some (.dat ((cT D.int) e1.2)), none, none], rfl, ?_⟩
    show So _ (tb_law_due_1 e1 s1) _
    unfold tb_law_due_1
    refine so_bind fun x_met h1 => ?_
    refine so_st (ρ1 := [some (.dat ((cT D.int) x_prices)), some (.dat ((cL (cP D.int (cT D.int))) x_knots)), some ((hW (hD D.bl)) x_met), some (.dat (D.int e1.1)), some (.dat ((cT D.int) e1.2)), none, none]) (st_stoW (h := (hD D.bl)) (l := s1) (v := true) rfl (d_d (l_var rfl)) l_k h1) ?_
    exact so_end (so_pure (Goes.nx ⟨_, _, rfl⟩))
  · rintro x_met_1 ρ ⟨j2, j3, rfl⟩
    refine so_bind fun u5 h6 => ?_
    refine so_st (ρ1 := [some (.dat ((cT D.int) x_prices)), some (.dat ((cL (cP D.int (cT D.int))) x_knots)), some ((hW (hD D.bl)) x_met_1), j2, j3, some ((hL (hD (cP D.int (cT D.int)))) u5), none]) (st_own (ev_lc (h := (hD (cP D.int (cT D.int)))) (q := (cP D.int (cT D.int))) (ir_L (c := (cP D.int (cT D.int))) (r_n (hh := (hL (hD (cP D.int (cT D.int))))) (l_fn (a_cons (d_d (l_fn (a_cons (d_d l_k) (a_cons (d_d (l_fn a_nil (tup_ok [] (by simp)))) a_nil)) (tup_ok _ (by simp)))) a_nil) (lst_ok (c := (cP D.int (cT D.int))) [((0 : Int), ([] : (List Int)))] (by simp))))) (fun y4 _ pv hp => by obtain rfl := Option.some.inj hp; exact ⟨[some (.dat ((cT D.int) x_prices)), some (.dat ((cL (cP D.int (cT D.int))) x_knots)), some ((hW (hD D.bl)) x_met_1), some (.dat (D.int y4.1)), some (.dat ((cT D.int) y4.2)), none, none], rfl, (b_e (l_try (l_inW (hh := (hD D.bl)) (l := x_met_1) true (r_d (l_var rfl)) rfl))), fun _ v hv => by obtain rfl := Option.some.inj hv; exact (l_fn (a_cons (d_d (l_var rfl)) (a_cons (d_d (l_var rfl)) a_nil)) (tup_ok _ (by simp)))⟩) h6)) ?_
    refine so_for (q := (cP D.int (cT D.int))) (E := fun (s : ((List (Int × (List Int))))) ρ => ∃ (q_2_letter : Option O) (q_2_price : Option O) (q_2_word : Option O), ρ = [some (.dat ((cT D.int) x_prices)), some (.dat ((cL (cP D.int (cT D.int))) x_knots)), some ((hW (hD D.bl)) x_met_1), q_2_price, q_2_word, some ((hL (hD (cP D.int (cT D.int)))) s), q_2_letter]) (i_L (c := (cP D.int (cT D.int))) (d_d (l_var rfl))) ?_ ⟨_, _, _, rfl⟩ ?_
    · rintro e2 s2 ρ ⟨q_2_letter, q_2_price, q_2_word, rfl⟩
      refine ⟨[some (.dat ((cT D.int) x_prices)), some (.dat ((cL (cP D.int (cT D.int))) x_knots)), some ((hW (hD D.bl)) x_met_1), some (.dat (D.int e2.1)), some (.dat ((cT D.int) e2.2)), some ((hL (hD (cP D.int (cT D.int)))) s2), q_2_letter], rfl, ?_⟩
      show So _ (tb_law_due_2 x_prices x_met_1 e2 s2) _
      unfold tb_law_due_2
      refine so_bind fun u7 h8 => ?_
      refine so_for (q := D.int) (E := fun (s : ((List (Int × (List Int))))) ρ => ∃ (q_3_letter : Option O), ρ = [some (.dat ((cT D.int) x_prices)), some (.dat ((cL (cP D.int (cT D.int))) x_knots)), some ((hW (hD D.bl)) x_met_1), some (.dat (D.int e2.1)), some (.dat ((cT D.int) e2.2)), some ((hL (hD (cP D.int (cT D.int)))) s), q_3_letter]) (i_rng1 (r_d (l_fn (r_cons (r_d (l_var rfl)) a_nil) (len_T (c := D.int)))) h8) ?_ ⟨_, rfl⟩ ?_
      · rintro e3 s3 ρ ⟨q_3_letter, rfl⟩
        refine ⟨[some (.dat ((cT D.int) x_prices)), some (.dat ((cL (cP D.int (cT D.int))) x_knots)), some ((hW (hD D.bl)) x_met_1), some (.dat (D.int e2.1)), some (.dat ((cT D.int) e2.2)), some ((hL (hD (cP D.int (cT D.int)))) s3), some (.dat (D.int e3))], rfl, ?_⟩
        show So _ (tb_law_due_3 x_met_1 e2.2 e2.1 x_prices e3 s3) _
        unfold tb_law_due_3
        refine so_bind fun u9 h10 => ?_
        refine so_join (E := fun (s : (List (Int × (List Int)))) ρ => ρ = [some (.dat ((cT D.int) x_prices)), some (.dat ((cL (cP D.int (cT D.int))) x_knots)), some ((hW (hD D.bl)) x_met_1), some (.dat (D.int e2.1)), some (.dat ((cT D.int) e2.2)), some ((hL (hD (cP D.int (cT D.int)))) s), some (.dat (D.int e3))]) (b_e (l_try (l_inW (hh := (hD D.bl)) (l := x_met_1) true (r_d (l_op (r_d (l_var rfl)) (r_d (l_fn (a_cons (d_d (l_var rfl)) a_nil) (tup_ok _ (by simp)))) (cat_T (c := D.int) h10))) rfl))) (fun hc => ?_) (fun hc => ?_) ?_
        · refine so_bind fun u12 h13 => ?_
          refine so_bind fun u14 h15 => ?_
          refine so_bind fun x_due h11 => ?_
          refine so_st (ρ1 := [some (.dat ((cT D.int) x_prices)), some (.dat ((cL (cP D.int (cT D.int))) x_knots)), some ((hW (hD D.bl)) x_met_1), some (.dat (D.int e2.1)), some (.dat ((cT D.int) e2.2)), some ((hL (hD (cP D.int (cT D.int)))) x_due), some (.dat (D.int e3))]) (st_app (hh := (hD (cP D.int (cT D.int)))) (l := s3) (x := ((e2.1 + u12), u14)) rfl (l_fn (a_cons (d_d (l_op (r_d (l_var rfl)) (r_d (l_ix (l_var rfl) (r_d (l_var rfl)) (ix_T (c := D.int) h13))) rfl)) (a_cons (d_d (l_op (r_d (l_var rfl)) (r_d (l_fn (a_cons (d_d (l_var rfl)) a_nil) (tup_ok _ (by simp)))) (cat_T (c := D.int) h15))) a_nil)) (tup_ok _ (by simp))) h11) ?_
          exact so_end (so_pure ⟨_, rfl, rfl⟩)
        · exact so_end (so_pure ⟨_, rfl, rfl⟩)
        · rintro x_due_1 ρ rfl
          exact so_end (so_pure (Goes.nx ⟨_, rfl⟩))
      · rintro x_due_2 ρ ⟨j16, rfl⟩
        exact so_end (so_pure (Goes.nx ⟨_, _, _, rfl⟩))
    · rintro x_due_3 ρ ⟨j17, j18, j19, rfl⟩
      exact so_rt (st_ret (l_try (l_fn (r_cons (r_p (c := (cP D.int (cT D.int))) (l := x_due_3) rfl) a_nil) (sort_o (a := (cP D.int (cT D.int))) (by decide) (fun _ _ => rfl) (fun _ => ⟨_, _, rfl⟩) _)))) (so_pure ⟨_, _, rfl, rfl, outs_d [(cT D.int) x_prices, (cL (cP D.int (cT D.int))) x_knots] (by simp)⟩)
noncomputable def t_law_pair_whole (x_pair : (Int × (List Int))) : Option Bool := (t_law_whole (some (x_pair.1))).bind fun u1 => (if u1 = true then (lcT (x_pair.2) (fun (_ : Int) => some true) (fun (y3 : Int) => (t_law_whole (some y3)).bind fun u4 => some u4)).bind fun u6 => some (u6.all id) else some false).bind fun u8 => some u8
theorem s_law_pair_whole {m : Nat} (hm : 2 ≤ m) (x_pair : (Int × (List Int))) (v : Bool) (hv : t_law_pair_whole x_pair = some v) : DD m "_law_pair_whole" [.dat ((cP D.int (cT D.int)) x_pair)] = .ok ((hD D.bl) v) [.dat ((cP D.int (cT D.int)) x_pair)] := by
  rw [e_law_pair_whole (by omega)]
  refine run_So (EO := (hD D.bl)) (EK := fun _ => [.dat ((cP D.int (cT D.int)) x_pair)]) (t := t_law_pair_whole x_pair) ?_ hv
  show So (Rt [] [.dat ((cP D.int (cT D.int)) x_pair)] (hD D.bl) (fun _ => [.dat ((cP D.int (cT D.int)) x_pair)])) _ (r_law_pair_whole (DD (m - 1)) [some (.dat ((cP D.int (cT D.int)) x_pair)), none])
  unfold t_law_pair_whole r_law_pair_whole
  refine so_top ?_
  refine so_bind fun u1 h2 => ?_
  refine so_bind fun u8 h9 => ?_
  exact so_rt (st_ret (l_andO (b_e (l_call (ar_d (l_ix (l_var rfl) (r_d l_k) rfl) ar_nil) (s_law_whole (m := m - 1) (by omega) (some (x_pair.1)) u1 h2) (.inl rfl))) h9 (fun b hr => by obtain ⟨u6, h7, hr⟩ := ob hr; obtain rfl := Option.some.inj hr; exact (l_fn (r_cons (r_n (hh := (hL (hD D.bl))) (ev_lc (h := (hD D.bl)) (q := D.int) (ir_T (c := D.int) (r_d (l_ix (l_var rfl) (r_d l_k) rfl))) (fun y3 _ pv hp => by obtain rfl := Option.some.inj hp; exact ⟨[some (.dat ((cP D.int (cT D.int)) x_pair)), some (.dat (D.int y3))], rfl, rfl, fun _ v hv => by obtain ⟨u4, h5, hv⟩ := ob hv; obtain rfl := Option.some.inj hv; exact (l_call (ar_d (l_var rfl) ar_nil) (s_law_whole (m := m - 1) (by omega) (some y3) u4 h5) (.inl rfl))⟩) h7)) a_nil) all_L)))) (so_pure ⟨_, _, rfl, rfl, outs_d [(cP D.int (cT D.int)) x_pair] (by simp)⟩)
noncomputable def tb_law_apart_1 (c_some : (List (List Int))) (e_1 : Int) : Option (Fw Unit Bool) := (atI c_some e_1).bind fun u5 => (atI c_some (e_1 - (1 : Int))).bind fun u7 => (atI c_some (e_1 - (1 : Int))).bind fun u9 => if (decide ((cutD u5 none (some (u7.length : Int))) = u9)) = true then some (.rt false) else some (.go ())
noncomputable def t_law_apart (x_words : (List (List Int))) : Option Bool := (sortWT x_words).bind fun u1 => (rngT (1 : Int) (u1.length : Int)).bind fun u3 => bindR (forR (fun (x : Int) (s : Unit) => tb_law_apart_1 u1 x) u3 ()) (fun (w11 : Unit) => some true) (fun b => some b)
theorem s_law_apart {m : Nat} (hm : 1 ≤ m) (x_words : (List (List Int))) (v : Bool) (hv : t_law_apart x_words = some v) : DD m "_law_apart" [.dat ((cL (cT D.int)) x_words)] = .ok ((hD D.bl) v) [.dat ((cL (cT D.int)) x_words)] := by
  rw [e_law_apart (by omega)]
  refine run_So (EO := (hD D.bl)) (EK := fun _ => [.dat ((cL (cT D.int)) x_words)]) (t := t_law_apart x_words) ?_ hv
  show So (Rt [] [.dat ((cL (cT D.int)) x_words)] (hD D.bl) (fun _ => [.dat ((cL (cT D.int)) x_words)])) _ (r_law_apart (DD (m - 1)) [some (.dat ((cL (cT D.int)) x_words)), none, none])
  unfold t_law_apart r_law_apart
  refine so_top ?_
  refine so_bind fun u1 h2 => ?_
  refine so_st (ρ1 := [some (.dat ((cL (cT D.int)) x_words)), some (.dat ((cL (cT D.int)) u1)), none]) (st_setn (hh := (hL (hD (cT D.int)))) (l_fn (r_cons (r_d (l_var rfl)) a_nil) (sort_wT h2))) ?_
  refine so_bind fun u3 h4 => ?_
  refine so_forR (q := D.int) (E := fun (s : Unit) ρ => ∃ (q_1_k : Option O), ρ = [some (.dat ((cL (cT D.int)) x_words)), some (.dat ((cL (cT D.int)) u1)), q_1_k]) (R := (Rt [] [.dat ((cL (cT D.int)) x_words)] (hD D.bl) (fun _ => [.dat ((cL (cT D.int)) x_words)]))) (i_rng2 (r_d l_k) (r_d (l_fn (r_cons (r_d (l_var rfl)) a_nil) (len_L (c := (cT D.int))))) h4) ?_ ⟨_, rfl⟩ ?_ rt_st ?_
  · rintro e1 s1 ρ ⟨q_1_k, rfl⟩
    refine ⟨[some (.dat ((cL (cT D.int)) x_words)), some (.dat ((cL (cT D.int)) u1)), some (.dat (D.int e1))], rfl, ?_⟩
    show So _ (tb_law_apart_1 u1 e1) _
    unfold tb_law_apart_1
    refine so_bind fun u5 h6 => ?_
    refine so_bind fun u7 h8 => ?_
    refine so_bind fun u9 h10 => ?_
    refine so_if (b_e (l_op (r_d (l_sl (r_d (l_ix (l_var rfl) (r_d (l_var rfl)) (ix_L (c := (cT D.int)) h6))) o_no (o_so (r_d (l_fn (r_cons (r_d (l_ix (l_var rfl) (r_d (l_op (r_d (l_var rfl)) (r_d l_k) rfl)) (ix_L (c := (cT D.int)) h8))) a_nil) (len_T (c := D.int))))) (sl_T (c := D.int) _ _))) (r_d (l_ix (l_var rfl) (r_d (l_op (r_d (l_var rfl)) (r_d l_k) rfl)) (ix_L (c := (cT D.int)) h10))) (eq_G (c := (cT D.int)) (u := (cutD u5 none (some (u7.length : Int)))) (v := u9) (by decide)))) (fun hc => ?_) (fun hc => ?_)
    · exact so_rt (st_ret l_k) (so_pure (show Bo _ _ (Fw.rt _) _ from ⟨_, _, rfl, rfl, outs_d [(cL (cT D.int)) x_words] (by simp)⟩))
    · refine so_end ?_
      exact so_end (so_pure (show Bo _ _ (Fw.go _) _ from Goes.nx ⟨_, rfl⟩))
  · rintro w11 ρ ⟨j12, rfl⟩
    exact so_rt (st_ret l_k) (so_pure ⟨_, _, rfl, rfl, outs_d [(cL (cT D.int)) x_words] (by simp)⟩)
  · exact fun v r h => so_pure h
noncomputable def tb_law_1 (c_prices : (List Int)) (e_1 : Int) : Option (Fw Unit Bool) := (t_law_many e_1).bind fun u5 => (okO (t_ends_of c_prices u5)).bind fun u7 => (okO (t_cheapest_knots c_prices u5)).bind fun u9 => (t_law_due c_prices u9).bind fun u11 => (if (!true) = true then some true else (if (!decide (u7 = u11)) = true then some true else (mulT u5 ((c_prices.length : Int) - (1 : Int))).bind fun u13 => some (!decide ((u7.length : Int) = (u13 + (1 : Int))))).bind fun u15 => some u15).bind fun u17 => if u17 = true then some (.rt false) else (lcT u7 (fun (_ : (Int × (List Int))) => some true) (fun (y19 : (Int × (List Int))) => some (y19.2))).bind fun u20 => (t_law_apart u20).bind fun u22 => (if (!u22) = true then some true else (lcT u7 (fun (_ : (Int × (List Int))) => some true) (fun (y24 : (Int × (List Int))) => (t_law_pair_whole y24).bind fun u25 => some u25)).bind fun u27 => some (!(u27.all id))).bind fun u29 => if u29 = true then some (.rt false) else (some ([] : (List (Int × (List Int))))).bind fun x_found_1 => (okO (t_ends_of c_prices u5)).bind fun u33 => if (!decide (u33 = u11)) = true then some (.rt false) else some (.go ())
noncomputable def t_law (x_script : (List Int)) : Option Bool := (t_law_prices x_script).bind fun u1 => (catT (cutD x_script (some (8 : Int)) (some (11 : Int))) [(0 : Int)]).bind fun u3 => bindR (forR (fun (x : Int) (s : Unit) => tb_law_1 u1 x) u3 ()) (fun (w35 : Unit) => some true) (fun b => some b)
theorem s_law {m : Nat} (hm : 4 ≤ m) (x_script : (List Int)) (v : Bool) (hv : t_law x_script = some v) : DD m "law" [.dat (cS x_script)] = .ok ((hD D.bl) v) [.dat (cS x_script)] := by
  rw [e_law (by omega)]
  refine run_So (EO := (hD D.bl)) (EK := fun _ => [.dat (cS x_script)]) (t := t_law x_script) ?_ hv
  show So (Rt [] [.dat (cS x_script)] (hD D.bl) (fun _ => [.dat (cS x_script)])) _ (r_law (DD (m - 1)) [some (.dat (cS x_script)), none, none, none, none, none, none])
  unfold t_law r_law
  refine so_top ?_
  refine so_bind fun u1 h2 => ?_
  refine so_st (ρ1 := [some (.dat (cS x_script)), some (.dat ((cT D.int) u1)), none, none, none, none, none]) (st_set (l_call (ar_d (l_var rfl) ar_nil) (s_law_prices (m := m - 1) (by omega) x_script u1 h2) (.inl rfl))) ?_
  refine so_bind fun u3 h4 => ?_
  refine so_forR (q := D.int) (E := fun (s : Unit) ρ => ∃ (q_1_many : Option O) (q_1_found : Option O) (q_1_due : Option O) (q_1_cell : Option O), ρ = [some (.dat (cS x_script)), some (.dat ((cT D.int) u1)), q_1_cell, q_1_many, q_1_found, q_1_due, none]) (R := (Rt [] [.dat (cS x_script)] (hD D.bl) (fun _ => [.dat (cS x_script)]))) (i_L (c := D.int) (d_n (hh := (hL (hD D.int))) (l_op (r_n (hh := (hL (hD D.int))) (l_sl (r_d (l_var rfl)) (o_so (r_d l_k)) (o_so (r_d l_k)) (sl_S _ _))) (r_n (hh := (hL (hD D.int))) (l_fn (a_cons (d_d l_k) a_nil) (lst_ok (c := D.int) [(0 : Int)] (by simp)))) (cat_L (c := D.int) h4)))) ?_ ⟨_, _, _, _, rfl⟩ ?_ rt_st ?_
  · rintro e1 s1 ρ ⟨q_1_many, q_1_found, q_1_due, q_1_cell, rfl⟩
    refine ⟨[some (.dat (cS x_script)), some (.dat ((cT D.int) u1)), some (.dat (D.int e1)), q_1_many, q_1_found, q_1_due, none], rfl, ?_⟩
    show So _ (tb_law_1 u1 e1) _
    unfold tb_law_1
    refine so_bind fun u5 h6 => ?_
    refine so_st (ρ1 := [some (.dat (cS x_script)), some (.dat ((cT D.int) u1)), some (.dat (D.int e1)), some (.dat (D.int u5)), q_1_found, q_1_due, none]) (st_set (l_call (ar_d (l_var rfl) ar_nil) (s_law_many (m := m - 1) (by omega) e1 u5 h6) (.inl rfl))) ?_
    refine so_bind fun u7 h8 => ?_
    refine so_st (ρ1 := [some (.dat (cS x_script)), some (.dat ((cT D.int) u1)), some (.dat (D.int e1)), some (.dat (D.int u5)), some ((hL (hD (cP D.int (cT D.int)))) u7), q_1_due, none]) (st_own (l_call (ar_d (l_var rfl) (ar_d (l_var rfl) ar_nil)) (s_ends_of (m := m - 1) (by omega) u1 u5 (.ok u7) (okO_h h8)) (.inl rfl))) ?_
    refine so_bind fun u9 h10 => ?_
    refine so_bind fun u11 h12 => ?_
    refine so_st (ρ1 := [some (.dat (cS x_script)), some (.dat ((cT D.int) u1)), some (.dat (D.int e1)), some (.dat (D.int u5)), some ((hL (hD (cP D.int (cT D.int)))) u7), some (.dat ((cL (cP D.int (cT D.int))) u11)), none]) (st_setn (hh := (hL (hD (cP D.int (cT D.int))))) (l_call (ar_d (l_var rfl) (ar_n (hh := (hL (hD (cP D.int (cT D.int))))) (l_call (ar_d (l_var rfl) (ar_d (l_var rfl) ar_nil)) (s_cheapest_knots (m := m - 1) (by omega) u1 u5 (.ok u9) (okO_h h10)) (.inl rfl)) ar_nil)) (s_law_due (m := m - 1) (by omega) u1 u9 u11 h12) (.inl rfl))) ?_
    refine so_bind fun u17 h18 => ?_
    refine so_if (b_orO (b_not (b_e (l_try (l_un (r_p (c := (cP D.int (cT D.int))) (l := u7) rfl) (isT_eq (t := "list") rfl (by decide +kernel)))))) h18 (fun b hr => by obtain ⟨u15, h16, hr⟩ := ob hr; obtain rfl := Option.some.inj hr; exact (b_orO (b_e (l_try (l_op (r_p (c := (cP D.int (cT D.int))) (l := u7) rfl) (r_d (l_var rfl)) (ne_G (c := (cL (cP D.int (cT D.int)))) (u := u7) (v := u11) (by decide))))) h16 (fun b hr => by obtain ⟨u13, h14, hr⟩ := ob hr; obtain rfl := Option.some.inj hr; exact (b_e (l_op (r_d (l_try (l_fn (r_cons (r_p (c := (cP D.int (cT D.int))) (l := u7) rfl) a_nil) (len_L (c := (cP D.int (cT D.int))))))) (r_d (l_op (r_d (l_op (r_d (l_var rfl)) (r_d (l_op (r_d (l_fn (r_cons (r_d (l_var rfl)) a_nil) (len_T (c := D.int)))) (r_d l_k) rfl)) (mul_f h14))) (r_d l_k) rfl)) (ne_G (c := D.int) (u := (u7.length : Int)) (v := (u13 + (1 : Int))) (by decide)))))))) (fun hc => ?_) (fun hc => ?_)
    · exact so_rt (st_ret l_k) (so_pure (show Bo _ _ (Fw.rt _) _ from ⟨_, _, rfl, rfl, outs_d [cS x_script] (by simp)⟩))
    · refine so_end ?_
      refine so_bind fun u20 h21 => ?_
      refine so_bind fun u22 h23 => ?_
      refine so_bind fun u29 h30 => ?_
      refine so_if (b_orO (b_not (b_e (l_call (ar_n (hh := (hL (hD (cT D.int)))) (l_try (ev_lc (h := (hD (cT D.int))) (q := (cP D.int (cT D.int))) (ir_L (c := (cP D.int (cT D.int))) (r_p (c := (cP D.int (cT D.int))) (l := u7) rfl)) (fun y19 _ pv hp => by obtain rfl := Option.some.inj hp; exact ⟨[some (.dat (cS x_script)), some (.dat ((cT D.int) u1)), some (.dat (D.int e1)), some (.dat (D.int u5)), some ((hL (hD (cP D.int (cT D.int)))) u7), some (.dat ((cL (cP D.int (cT D.int))) u11)), some (.dat ((cP D.int (cT D.int)) y19))], rfl, rfl, fun _ v hv => by obtain rfl := Option.some.inj hv; exact (l_ix (l_var rfl) (r_d l_k) rfl)⟩) h21)) ar_nil) (s_law_apart (m := m - 1) (by omega) u20 u22 h23) (.inl rfl)))) h30 (fun b hr => by obtain ⟨u27, h28, hr⟩ := ob hr; obtain rfl := Option.some.inj hr; exact (b_not (b_e (l_fn (r_cons (r_n (hh := (hL (hD D.bl))) (l_try (ev_lc (h := (hD D.bl)) (q := (cP D.int (cT D.int))) (ir_L (c := (cP D.int (cT D.int))) (r_p (c := (cP D.int (cT D.int))) (l := u7) rfl)) (fun y24 _ pv hp => by obtain rfl := Option.some.inj hp; exact ⟨[some (.dat (cS x_script)), some (.dat ((cT D.int) u1)), some (.dat (D.int e1)), some (.dat (D.int u5)), some ((hL (hD (cP D.int (cT D.int)))) u7), some (.dat ((cL (cP D.int (cT D.int))) u11)), some (.dat ((cP D.int (cT D.int)) y24))], rfl, rfl, fun _ v hv => by obtain ⟨u25, h26, hv⟩ := ob hv; obtain rfl := Option.some.inj hv; exact (l_call (ar_d (l_var rfl) ar_nil) (s_law_pair_whole (m := m - 1) (by omega) y24 u25 h26) (.inl rfl))⟩) h28))) a_nil) all_L))))) (fun hc => ?_) (fun hc => ?_)
      · exact so_rt (st_ret l_k) (so_pure (show Bo _ _ (Fw.rt _) _ from ⟨_, _, rfl, rfl, outs_d [cS x_script] (by simp)⟩))
      · refine so_end ?_
        refine so_bind fun x_found_1 h32 => ?_
        refine so_st (ρ1 := [some (.dat (cS x_script)), some (.dat ((cT D.int) u1)), some (.dat (D.int e1)), some (.dat (D.int u5)), some ((hL (hD (cP D.int (cT D.int)))) x_found_1), some (.dat ((cL (cP D.int (cT D.int))) u11)), none]) (by obtain rfl := Option.some.inj h32; exact (st_clr (hh := (hD (cP D.int (cT D.int)))) (l := u7) rfl)) ?_
        refine so_bind fun u33 h34 => ?_
        refine so_if (b_e (l_op (r_n (hh := (hL (hD (cP D.int (cT D.int))))) (l_call (ar_d (l_var rfl) (ar_d (l_var rfl) ar_nil)) (s_ends_of (m := m - 1) (by omega) u1 u5 (.ok u33) (okO_h h34)) (.inl rfl))) (r_d (l_var rfl)) (ne_G (c := (cL (cP D.int (cT D.int)))) (u := u33) (v := u11) (by decide)))) (fun hc => ?_) (fun hc => ?_)
        · exact so_rt (st_ret l_k) (so_pure (show Bo _ _ (Fw.rt _) _ from ⟨_, _, rfl, rfl, outs_d [cS x_script] (by simp)⟩))
        · refine so_end ?_
          exact so_end (so_pure (show Bo _ _ (Fw.go _) _ from Goes.nx ⟨_, _, _, _, rfl⟩))
  · rintro w35 ρ ⟨j36, j37, j38, j39, rfl⟩
    exact so_rt (st_ret l_k) (so_pure ⟨_, _, rfl, rfl, outs_d [cS x_script] (by simp)⟩)
  · exact fun v r h => so_pure h
end Z
namespace Z
open PySem L2 FL
theorem ob_s {α β : Type} {t : Option α} {k : α → Option β} {a : α} (h : t = some a) : t.bind k = k a := by rw [h]; rfl
theorem bx {α β : Type} {t : Option (Ou β)} {kx : Str → List (Str × Int) → Option α} {k : β → Option α} {v : β} (h : t = some (.ok v)) : bindX t kx k = k v := by rw [h]; rfl
theorem ok_s {β : Type} {t : Option (Ou β)} {v : β} (h : t = some (.ok v)) : okO t = some v := by rw [h]; rfl
theorem forR_inv {α σ β : Type} {tb : α → σ → Option (Fw σ β)} (P : List α → σ → Prop) : ∀ {l : List α} {s0 : σ}, P [] s0 → (∀ d x r, l = d ++ x :: r → ∀ s, P d s → ∃ s', tb x s = some (.go s') ∧ P (d ++ [x]) s') → ∃ s, forR tb l s0 = some (.go s) ∧ P l s := by
  intro l
  induction l generalizing P with
  | nil => intro s0 h _; exact ⟨s0, rfl, h⟩
  | cons x l ih =>
    intro s0 h H
    obtain ⟨s1, e1, h1⟩ := H [] x l rfl s0 h
    obtain ⟨s, e2, h2⟩ := ih (fun d s => P (x :: d) s) (s0 := s1) h1 (fun d y r hd s hs => by
      obtain ⟨s', e, h'⟩ := H (x :: d) y r (by rw [hd]; rfl) s hs
      exact ⟨s', e, h'⟩)
    refine ⟨s, ?_, h2⟩
    show (tb x s0).bind _ = _
    rw [e1]; exact e2
theorem cut_len {α : Type} (l : List α) (a b : Option Int) : (cutD l a b).length ≤ l.length := by
  unfold cutD
  rw [List.length_take, List.length_drop]
  omega
theorem at_some {α : Type} {l : List α} {i : Int} {k : Nat} (h : i = (k : Int)) (hk : k < l.length) : atI l i = some l[k] := by subst h; exact atI_n hk
theorem leO_P : leO (lt2 ltI (ltL ltI)) = leP := by
  funext x y
  show (!(decide (y.1 < x.1) || (decide (y.1 = x.1) && ltL ltI y.2 x.2))) = _
  rw [ltW_L]; rfl
theorem sortO_P (l : List PW) : sortO (lt2 ltI (ltL ltI)) l = sortP l := by
  unfold sortO sortP
  rw [leO_P]
def chP (ps : List Int) (e : PW) : List PW := (enumT ps).map fun y => (e.1 + y.2, e.2 ++ [y.1])
theorem enum_len (ps : List Int) : (enumT ps).length = ps.length := by unfold enumT; simp
theorem enum_at (ps : List Int) {i : Nat} (h : i < (enumT ps).length) : (enumT ps)[i] = ((i : Int), ps[i]'(by rw [enum_len] at h; exact h)) := by
  simp [enumT]
theorem mem_enum {ps : List Int} {y : Int × Int} (h : y ∈ enumT ps) : 0 ≤ y.1 ∧ y.1 < (ps.length : Int) ∧ ps[y.1.toNat]?.getD 0 = y.2 := by
  obtain ⟨i, hi, rfl⟩ := List.mem_iff_getElem.mp h
  have hi2 : i < ps.length := by rw [enum_len] at hi; exact hi
  rw [enum_at ps hi]
  refine ⟨by dsimp only; omega, by dsimp only; omega, ?_⟩
  dsimp only
  rw [Int.toNat_natCast, List.getElem?_eq_getElem hi2]; rfl
theorem chP_len (ps : List Int) (e : PW) : (chP ps e).length = ps.length := by unfold chP; rw [List.length_map, enum_len]
theorem enum_nodup (ps : List Int) : ((enumT ps).map (·.1)).Nodup := by
  have e : (enumT ps).map (·.1) = (List.range ps.length).map fun (k : Nat) => (k : Int) := by
    refine List.ext_getElem (by rw [List.length_map, enum_len]; simp) fun i h1 h2 => ?_
    rw [List.length_map] at h1
    simp [enum_at ps h1]
  rw [e]
  show List.Pairwise _ _
  rw [List.pairwise_map]
  exact (List.nodup_range (n := ps.length)).imp fun h z => h (by omega)
def wp (ps : List Int) (w : List Int) : Int := (w.map fun l => ps[l.toNat]?.getD 0).sum
theorem wp_snoc (ps : List Int) (w : List Int) (l : Int) : wp ps (w ++ [l]) = wp ps w + ps[l.toNat]?.getD 0 := by
  unfold wp
  rw [List.map_append, List.sum_append]; simp
theorem lt_of_le {x y : PW} (h : leP x y = true) (hn : x ≠ y) : ltP x y = true := by
  cases z : ltP x y with
  | true => rfl
  | false =>
    have h2 : ltP y x = false := by
      unfold leP at h
      simpa using h
    exact absurd (ltP_tot z h2) hn
structure Kn (ps : List Int) (K E : List PW) : Prop where
  ris : (K ++ E).Pairwise fun x y => ltP x y = true
  wp : ∀ e ∈ K ++ E, e.1 = Z.wp ps e.2
  let_ : ∀ e ∈ K ++ E, ∀ l ∈ e.2, 0 ≤ l ∧ l < (ps.length : Int)
  ch : ∀ e ∈ K, ∀ y ∈ enumT ps, (e.1 + y.2, e.2 ++ [y.1]) ∈ K ++ E
  par : ∀ (i : Nat) (e : PW), K[i]? = some e → e.2 ≠ [] → ∃ (j : Nat) (d : PW), j < i ∧ K[j]? = some d ∧ d.2 = e.2.dropLast
  pare : ∀ e ∈ E, e.2 ≠ [] → ∃ d ∈ K, d.2 = e.2.dropLast
  hd : ∃ t, K ++ E = (0, []) :: t
  wl : ∀ e ∈ K ++ E, e.2.length ≤ K.length
  len : E.length + K.length = 1 + K.length * ps.length
theorem Kn.same {ps : List Int} {K E : List PW} (h : Kn ps K E) {x y : PW} (hx : x ∈ K ++ E) (hy : y ∈ K ++ E) (e : x.2 = y.2) : x = y := by
  have h1 := h.wp x hx
  have h2 := h.wp y hy
  rw [e] at h1
  exact Prod.ext (h1.trans h2.symm) e
theorem Kn.apart {ps : List Int} {K E : List PW} (h : Kn ps K E) {x y : PW} (hx : x ∈ K) (hy : y ∈ E) : x.2 ≠ y.2 := fun e => by
  have he := h.same (List.mem_append_left _ hx) (List.mem_append_right _ hy) e
  have := (List.pairwise_append.mp h.ris).2.2 x hx y hy
  rw [he, ltP_irr] at this
  cases this
theorem kn0 (ps : List Int) : Kn ps [] [(0, [])] := by
  refine ⟨by simp, fun e he => ?_, fun e he => ?_, fun e he => (by cases he), fun i e h => (by simp at h), fun e he hn => ?_, ⟨[], rfl⟩, fun e he => ?_, by simp⟩
  · rw [List.mem_singleton.mp he]; rfl
  · rw [List.mem_singleton.mp he]; intro l hl; cases hl
  · rw [List.mem_singleton.mp he] at hn; exact absurd rfl hn
  · rw [List.mem_singleton.mp he]; simp
theorem nodup_of {l : List PW} (h : l.Pairwise fun x y => ltP x y = true) : l.Nodup := h.imp fun {a b} h e => by
  rw [e, ltP_irr] at h; cases h
theorem ris_of {l : List PW} (h : l.Nodup) : (sortP l).Pairwise fun x y => ltP x y = true := by
  have h2 : (sortP l).Nodup := (sortP_perm l).nodup_iff.mpr h
  exact (sortP_sorted l).imp₂ (fun a b h1 h2 => lt_of_le h1 h2) h2
theorem kn_step {ps : List Int} {K r : List PW} {e : PW} (hps : ∀ x ∈ ps, 1 ≤ x) (h : Kn ps K (e :: r)) : Kn ps (K ++ [e]) (sortP (r ++ chP ps e)) := by
  have mem : ∀ x, x ∈ sortP (r ++ chP ps e) ↔ x ∈ r ∨ ∃ y ∈ enumT ps, x = (e.1 + y.2, e.2 ++ [y.1]) := fun x => by
    rw [(sortP_perm _).mem_iff, List.mem_append]
    unfold chP
    rw [List.mem_map]
    exact ⟨fun z => z.imp id fun ⟨y, h1, h2⟩ => ⟨y, h1, h2.symm⟩, fun z => z.imp id fun ⟨y, h1, h2⟩ => ⟨y, h1, h2.symm⟩⟩
  have ein : e ∈ K ++ e :: r := List.mem_append_right _ List.mem_cons_self
  have pos : ∀ y ∈ enumT ps, 1 ≤ y.2 := fun y hy => by
    obtain ⟨i, hi, rfl⟩ := List.mem_iff_getElem.mp hy
    have hi2 : i < ps.length := by rw [enum_len] at hi; exact hi
    rw [enum_at ps hi]
    exact hps _ (List.getElem_mem hi2)
  have ris := h.ris
  have e0 : K ++ e :: r = (K ++ [e]) ++ r := by simp
  rw [e0, List.pairwise_append] at ris
  obtain ⟨r1, r2, r3⟩ := ris
  have eall : ∀ k ∈ K, ltP k e = true := fun k hk => (List.pairwise_append.mp r1).2.2 k hk e (by simp)
  have apart : ∀ x ∈ r, ∀ y ∈ enumT ps, x ≠ (e.1 + y.2, e.2 ++ [y.1]) := fun x hx y hy z => by
    obtain ⟨d, hd, hd2⟩ := h.pare x (List.mem_cons_of_mem _ hx) (by rw [z]; simp)
    rw [z] at hd2
    simp at hd2
    exact h.apart hd List.mem_cons_self hd2
  have nod : (r ++ chP ps e).Nodup := by
    rw [List.nodup_append]
    refine ⟨nodup_of r2, ?_, fun x hx y hy => ?_⟩
    · unfold chP
      have := enum_nodup ps
      rw [List.nodup_iff_pairwise_ne, List.pairwise_map] at this
      rw [List.nodup_iff_pairwise_ne, List.pairwise_map]
      exact this.imp fun {a b} hne z => hne (by
        have := congrArg (·.2) z
        simpa using this)
    · unfold chP at hy
      obtain ⟨z, hz, rfl⟩ := List.mem_map.mp hy
      exact apart x hx z hz
  have chlt : ∀ y ∈ enumT ps, ltP e (e.1 + y.2, e.2 ++ [y.1]) = true := fun y hy => by
    have := pos y hy
    rw [ltP_iff]; left; dsimp only; omega
  have all : ∀ x, x ∈ (K ++ [e]) ++ sortP (r ++ chP ps e) ↔ x ∈ K ++ e :: r ∨ ∃ y ∈ enumT ps, x = (e.1 + y.2, e.2 ++ [y.1]) := fun x => by
    rw [List.mem_append, mem x, e0, List.mem_append (s := K ++ [e]), or_assoc]
  refine ⟨?_, fun x hx => ?_, fun x hx => ?_, fun x hx y hy => ?_, fun i x hi hn => ?_, fun x hx hn => ?_, ?_, fun x hx => ?_, ?_⟩
  · rw [List.pairwise_append]
    refine ⟨r1, ris_of nod, fun x hx y hy => ?_⟩
    rcases (mem y).mp hy with hy | ⟨z, hz, rfl⟩
    · exact r3 x hx y hy
    · rcases List.mem_append.mp hx with hx | hx
      · exact ltP_trans (eall x hx) (chlt z hz)
      · rw [List.mem_singleton.mp hx]; exact chlt z hz
  · rcases (all x).mp hx with hx | ⟨y, hy, rfl⟩
    · exact h.wp x hx
    · show e.1 + y.2 = Z.wp ps (e.2 ++ [y.1])
      rw [wp_snoc, ← h.wp e ein, (mem_enum hy).2.2]
  · rcases (all x).mp hx with hx | ⟨y, hy, rfl⟩
    · exact h.let_ x hx
    · intro l hl
      rcases List.mem_append.mp hl with hl | hl
      · exact h.let_ e ein l hl
      · rw [List.mem_singleton.mp hl]
        exact ⟨(mem_enum hy).1, (mem_enum hy).2.1⟩
  · rcases List.mem_append.mp hx with hx | hx
    · exact (all _).mpr (.inl (h.ch x hx y hy))
    · rw [List.mem_singleton.mp hx]
      exact (all _).mpr (.inr ⟨y, hy, rfl⟩)
  · rcases Nat.lt_or_ge i K.length with hl | hl
    · rw [List.getElem?_append_left hl] at hi
      obtain ⟨j, d, j1, j2, j3⟩ := h.par i x hi hn
      exact ⟨j, d, j1, by rw [List.getElem?_append_left (by omega)]; exact j2, j3⟩
    · rw [List.getElem?_append_right hl] at hi
      have hz : i - K.length = 0 := by
        have := (List.getElem?_eq_some_iff.mp hi).1
        simp at this; omega
      rw [hz] at hi
      simp at hi
      subst hi
      obtain ⟨d, hd, hd2⟩ := h.pare e List.mem_cons_self hn
      obtain ⟨j, hj⟩ := List.mem_iff_getElem?.mp hd
      have hjl := (List.getElem?_eq_some_iff.mp hj).1
      exact ⟨j, d, by omega, by rw [List.getElem?_append_left hjl]; exact hj, hd2⟩
  · rcases (mem x).mp hx with hx | ⟨y, hy, rfl⟩
    · obtain ⟨d, hd, hd2⟩ := h.pare x (List.mem_cons_of_mem _ hx) hn
      exact ⟨d, List.mem_append_left _ hd, hd2⟩
    · exact ⟨e, by simp, by simp⟩
  · obtain ⟨t, ht⟩ := h.hd
    cases K with
    | nil =>
      rw [List.nil_append] at ht
      cases ht
      exact ⟨_, rfl⟩
    | cons k K =>
      rw [List.cons_append] at ht
      cases ht
      exact ⟨_, rfl⟩
  · rw [List.length_append, List.length_singleton]
    rcases (all x).mp hx with hx | ⟨y, hy, rfl⟩
    · have := h.wl x hx; omega
    · have := h.wl e ein
      show (e.2 ++ [y.1]).length ≤ _
      rw [List.length_append, List.length_singleton]; omega
  · have := h.len
    rw [sortP_len, List.length_append, chP_len, List.length_append, List.length_singleton, Nat.add_mul]
    simp only [List.length_cons] at this
    omega
theorem p_behind {ps : List Int} {K r : List PW} {e : PW} (hl : ps.length ≤ 6) (h : Kn ps K (e :: r)) (hK : K.length ≤ 100) : t_ends_behind ps (e :: r) = some (sortP (r ++ chP ps e)) := by
  unfold t_ends_behind
  have a0 : atI (e :: r) (0 : Int) = some e := atI_n (l := e :: r) (k := 0) (by simp)
  have hwe := h.wl e (List.mem_append_right _ List.mem_cons_self)
  have hlc : lcT (enumT ps) (fun (_ : (Int × Int)) => some true) (fun (y3 : (Int × Int)) => (catT e.2 [y3.1]).bind fun u4 => some ((e.1 + y3.2), u4)) = some (chP ps e) := lcT_map _ (by
    intro y _
    rw [ob_s (catT_ok (by simp; omega))]) (by rw [enum_len]; omega)
  have hc1 : cutD (e :: r) (some (1 : Int)) none = r := by rw [cut_from _ (by omega)]; rfl
  have hlen := h.len
  have := Nat.mul_le_mul hK hl
  simp only [List.length_cons] at hlen
  rw [ob_s a0, ob_s hlc, hc1, ob_s (catT_ok (by rw [chP_len]; omega)), sortO_P]
theorem p_grown82 {ps : List Int} (hps : ∀ x ∈ ps, 1 ≤ x) (hl : 2 ≤ ps.length ∧ ps.length ≤ 6) {m : Nat} (hm : m ≤ 60) : ∃ K E, t_grown ps (m : Int) = some (K, E) ∧ K.length = m ∧ Kn ps K E := by
  unfold t_grown
  rw [Option.bind_some, Option.bind_some, ob_s (rngT_n (by omega))]
  obtain ⟨s, e1, hs1, hs2⟩ := forT_inv (tb := fun (x : Int) (s : ((List (Int × (List Int))) × (List (Int × (List Int))))) => tb_grown_1 ps x s.1 s.2) (l := (List.range m).map fun (k : Nat) => (k : Int)) (s0 := ([], [((0 : Int), ([] : (List Int)))]))
    (fun d s => s.1.length = d.length ∧ Kn ps s.1 s.2) ⟨rfl, kn0 ps⟩ (by
    rintro d x r hd ⟨K, E⟩ ⟨g1, g2⟩
    dsimp only at g1 g2
    have hdl : d.length < m := by
      have := congrArg List.length hd
      simp at this; omega
    have hlen := g2.len
    have : K.length ≤ K.length * ps.length := by
      have := Nat.mul_le_mul_left K.length hl.1
      omega
    cases E with
    | nil => simp only [List.length_nil] at hlen; omega
    | cons e E =>
      show ∃ s', tb_grown_1 ps x K (e :: E) = some s' ∧ _
      unfold tb_grown_1
      have a0 : atI (e :: E) (0 : Int) = some e := atI_n (l := e :: E) (k := 0) (by simp)
      rw [ob_s a0, ob_s (appT_ok (by omega)), ob_s (p_behind hl.2 g2 (by omega))]
      exact ⟨_, rfl, by simp [g1], kn_step hps g2⟩)
  rw [ob_s e1]
  exact ⟨s.1, s.2, rfl, by rw [hs1]; simp, hs2⟩
end Z
namespace Z
open PySem L2 FL
theorem lt2_P (x y : PW) : lt2 ltI (ltL ltI) x y = ltP x y := by
  show (decide (x.1 < y.1) || (decide (x.1 = y.1) && ltL ltI x.2 y.2)) = _
  rw [ltW_L]; rfl
theorem ltP_asym {x y : PW} (h : ltP x y = true) : ltP y x = false := by
  cases z : ltP y x with
  | false => rfl
  | true =>
    have := ltP_trans h z
    rw [ltP_irr] at this; cases this
theorem forR_go {α β : Type} {tb : α → Unit → Option (Fw Unit β)} : ∀ {l : List α}, (∀ x ∈ l, tb x () = some (.go ())) → forR tb l () = some (.go ())
  | [], _ => rfl
  | x :: l, h => by
    show (tb x ()).bind _ = _
    rw [h x List.mem_cons_self]
    exact forR_go fun y hy => h y (List.mem_cons_of_mem _ hy)
theorem putT_new {α : Type} {T : List (List Int × α)} {k : List Int} {v : α} (hl : T.length < 16777216) (hn : (T.map (·.1)).Nodup) (hk : k ∉ T.map (·.1)) : putT T k v = some (T ++ [(k, v)]) := by
  unfold putT
  rw [if_pos ⟨hl, hn⟩]
  unfold putL
  have hno : idxK T k = none := by
    unfold idxK
    rw [List.findIdx?_eq_none_iff]
    intro x hx
    simp
    intro h
    exact hk (List.mem_map.mpr ⟨x, hx, h⟩)
  rw [hno]
theorem cut_init {w : List Int} (h : w ≠ []) : cutD w none (some (-1 : Int)) = w.dropLast := by
  have hl : 0 < w.length := List.length_pos_iff.mpr h
  unfold cutD HT.sIx
  dsimp only
  rw [if_pos (by omega), List.dropLast_eq_take, List.drop_zero]
  congr 1
  omega
theorem Kn.words {ps : List Int} {K E : List PW} (h : Kn ps K E) : ((K ++ E).map (·.2)).Nodup := by
  rw [List.nodup_iff_pairwise_ne, List.pairwise_map]
  refine h.ris.imp_of_mem fun {a b} ha hb hl e => ?_
  rw [h.same ha hb e, ltP_irr] at hl
  cases hl
theorem Kn.wordsK {ps : List Int} {K E : List PW} (h : Kn ps K E) : (K.map (·.2)).Nodup := by
  have := h.words
  rw [List.map_append] at this
  exact (List.nodup_append.mp this).1
theorem p_amount (c : Int) : ∃ a, t_law_amount c = some a ∧ 1 ≤ a ∧ a ≤ 10 ^ 30 := by
  unfold t_law_amount
  rw [Option.bind_some]
  obtain ⟨k, hk⟩ : ∃ k, k = c % 4 := ⟨_, rfl⟩
  rw [← hk]
  rcases (by omega : k = 0 ∨ k = 1 ∨ k = 2 ∨ k = 3) with h | h | h | h <;> rw [h]
  · exact ⟨1 + c / 4 % 1000000000000000000000000000000, rfl, by omega⟩
  · exact ⟨1000000000000000000000000000000 - c / 4 % 5, rfl, by omega⟩
  · exact ⟨1 + c / 4 % 3, rfl, by omega⟩
  · exact ⟨1 + c / 4 % 1000, rfl, by omega⟩
theorem p_cell (l : List Int) (k : Nat) : ∃ c, t_law_cell_at l (k : Int) = some c := by
  unfold t_law_cell_at
  by_cases h : k < l.length
  · rw [if_pos (by simp; omega), ob_s (atI_n h)]
    exact ⟨_, rfl⟩
  · rw [if_neg (by simp; omega)]
    exact ⟨0, rfl⟩
theorem p_prices (ns : List Int) : ∃ ps, t_law_prices ns = some ps ∧ (∀ x ∈ ps, 1 ≤ x ∧ x ≤ 10 ^ 30) ∧ 2 ≤ ps.length ∧ ps.length ≤ 6 := by
  unfold t_law_prices
  obtain ⟨c, hc⟩ := p_cell ns 0
  have hc : t_law_cell_at ns 0 = some c := hc
  obtain ⟨L, hL⟩ : ∃ L : Nat, 2 + c % 5 = (L : Int) := ⟨(2 + c % 5).toNat, by omega⟩
  rw [ob_s hc, Option.bind_some, hL, ob_s (rngT_n (by omega))]
  have ex : ∀ x ∈ (List.range L).map fun (k : Nat) => (k : Int), ∃ v, ((t_law_cell_at ns ((2 : Int) + x)).bind fun u7 => (t_law_amount u7).bind fun u9 => some u9) = some v ∧ 1 ≤ v ∧ v ≤ 10 ^ 30 := fun x hx => by
    obtain ⟨k, _, rfl⟩ := List.mem_map.mp hx
    obtain ⟨c, hc⟩ := p_cell ns (2 + k)
    have hc : t_law_cell_at ns (2 + (k : Int)) = some c := by rw [← hc]; congr 1
    obtain ⟨a, a1, a2⟩ := p_amount c
    exact ⟨a, by rw [ob_s hc, ob_s a1], a2⟩
  have : ∃ g : Int → Int, ∀ x ∈ (List.range L).map fun (k : Nat) => (k : Int), ((t_law_cell_at ns ((2 : Int) + x)).bind fun u7 => (t_law_amount u7).bind fun u9 => some u9) = some (g x) ∧ 1 ≤ g x ∧ g x ≤ 10 ^ 30 := by
    refine ⟨fun x => (((t_law_cell_at ns ((2 : Int) + x)).bind fun u7 => (t_law_amount u7).bind fun u9 => some u9)).getD 0, fun x hx => ?_⟩
    obtain ⟨v, h1, h2⟩ := ex x hx
    dsimp only
    rw [h1]
    exact ⟨rfl, h2⟩
  obtain ⟨g, hg⟩ := this
  rw [ob_s (lcT_map g (fun x hx => (hg x hx).1) (by simp; omega))]
  refine ⟨_, rfl, fun v hv => ?_, by simp; omega, by simp; omega⟩
  obtain ⟨x, hx, rfl⟩ := List.mem_map.mp hv
  exact (hg x hx).2
theorem p_many (c : Int) : ∃ m : Nat, t_law_many c = some (m : Int) ∧ m ≤ 60 := by
  unfold t_law_many
  rcases (by omega : c % 3 = 0 ∨ c % 3 = 1 ∨ c % 3 = 2) with h | h | h <;> rw [h]
  · exact ⟨(c / 3 % 9).toNat, by rw [Int.toNat_of_nonneg (by omega)]; rfl, by omega⟩
  · exact ⟨(c / 3 % 61).toNat, by rw [Int.toNat_of_nonneg (by omega)]; rfl, by omega⟩
  · exact ⟨60, rfl, by omega⟩
theorem p_look {m : Nat} (h : m ≤ 60) : t_look_at_many (m : Int) 0 = some (.ok ()) := by
  unfold t_look_at_many
  rw [if_neg (by simp), if_neg (by simp; omega)]
theorem p_cheapest {ps : List Int} {K E : List PW} {m : Nat} (hm : m ≤ 60) (h : t_grown ps (m : Int) = some (K, E)) : t_cheapest_knots ps (m : Int) = some (.ok K) := by
  unfold t_cheapest_knots
  rw [bx (p_look hm), ob_s h]
end Z
namespace Z
open PySem L2 FL
theorem forT_app82 {α β : Type} {tb : α → List β → Option (List β)} {g : α → List β} : ∀ {l : List α} {s : List β}, s.length + (l.flatMap g).length ≤ 16777215 → (∀ x ∈ l, ∀ s : List β, s.length + (g x).length ≤ 16777215 → tb x s = some (s ++ g x)) → forT tb l s = some (s ++ l.flatMap g)
  | [], s, _, _ => by simp [forT]
  | x :: l, s, h, H => by
    rw [List.flatMap_cons, List.length_append] at h
    show (tb x s).bind _ = _
    rw [ob_s (H x List.mem_cons_self s (by omega)), forT_app82 (by rw [List.length_append]; omega) fun y hy => H y (List.mem_cons_of_mem _ hy), List.flatMap_cons, List.append_assoc]
theorem ris_eqP : ∀ {a b : List PW}, a.Pairwise (fun x y => ltP x y = true) → b.Pairwise (fun x y => ltP x y = true) → (∀ z, z ∈ a ↔ z ∈ b) → a = b
  | [], [], _, _, _ => rfl
  | [], y :: b, _, _, h => by have := (h y).mpr List.mem_cons_self; cases this
  | x :: a, [], _, _, h => by have := (h x).mp List.mem_cons_self; cases this
  | x :: a, y :: b, h1, h2, h => by
    obtain ⟨a1, a2⟩ := List.pairwise_cons.mp h1
    obtain ⟨b1, b2⟩ := List.pairwise_cons.mp h2
    have e : x = y := by
      have p := (h x).mp List.mem_cons_self
      have q := (h y).mpr List.mem_cons_self
      rcases List.mem_cons.mp p with p | p
      · exact p
      · rcases List.mem_cons.mp q with q | q
        · exact q.symm
        · have := a1 y q
          have := ltP_asym (b1 x p)
          simp_all
    subst e
    congr 1
    refine ris_eqP a2 b2 fun z => ⟨fun hz => ?_, fun hz => ?_⟩
    · rcases List.mem_cons.mp ((h z).mp (List.mem_cons_of_mem _ hz)) with rfl | w
      · have := a1 z hz; rw [ltP_irr] at this; cases this
      · exact w
    · rcases List.mem_cons.mp ((h z).mpr (List.mem_cons_of_mem _ hz)) with rfl | w
      · have := b1 z hz; rw [ltP_irr] at this; cases this
      · exact w
theorem p_ends {ps : List Int} {K E : List PW} {m : Nat} (hm : m ≤ 60) (h : t_grown ps (m : Int) = some (K, E)) : t_ends_of ps (m : Int) = some (.ok E) := by
  unfold t_ends_of
  rw [bx (p_look hm), ob_s h]
section
variable {ps : List Int} {K E : List PW}
def missing (ps : List Int) (K : List PW) (e : PW) : List PW := (chP ps e).filter fun c => !decide (c.2 ∈ K.map (·.2))
def due0 (K : List PW) : List PW := if ([] : List Int) ∈ K.map (·.2) then [] else [((0 : Int), ([] : List Int))]
theorem miss_mem {e c : PW} : c ∈ missing ps K e ↔ c ∈ chP ps e ∧ c.2 ∉ K.map (·.2) := by
  unfold missing
  rw [List.mem_filter]
  simp
theorem ch_mem {e c : PW} : c ∈ chP ps e ↔ ∃ y ∈ enumT ps, c = (e.1 + y.2, e.2 ++ [y.1]) := by
  unfold chP
  rw [List.mem_map]
  exact ⟨fun ⟨y, h, e⟩ => ⟨y, h, e.symm⟩, fun ⟨y, h, e⟩ => ⟨y, h, e.symm⟩⟩
theorem Kn.nilK (h : Kn ps K E) : K ≠ [] → ((0 : Int), ([] : List Int)) ∈ K := by
  intro hn
  obtain ⟨t, ht⟩ := h.hd
  cases K with
  | nil => exact absurd rfl hn
  | cons k K =>
    rw [List.cons_append] at ht
    cases ht
    exact List.mem_cons_self
theorem Kn.nilE (h : Kn ps K E) (hk : K = []) : E = [(0, [])] := by
  have h2 := h.len
  obtain ⟨t, ht⟩ := h.hd
  subst hk
  rw [List.nil_append] at ht
  subst ht
  simp at h2
  rw [h2]
theorem due0_mem (h : Kn ps K E) {c : PW} : c ∈ due0 K ↔ K = [] ∧ c = (0, []) := by
  unfold due0
  by_cases hk : K = []
  · subst hk
    simp
  · have := h.nilK hk
    rw [if_pos (List.mem_map.mpr ⟨_, this, rfl⟩)]
    simp [hk]
theorem miss_in (h : Kn ps K E) {e c : PW} (he : e ∈ K) (hc : c ∈ missing ps K e) : c ∈ E := by
  obtain ⟨h1, h2⟩ := miss_mem.mp hc
  obtain ⟨y, hy, rfl⟩ := ch_mem.mp h1
  rcases List.mem_append.mp (h.ch e he y hy) with z | z
  · exact absurd (List.mem_map.mpr ⟨_, z, rfl⟩) h2
  · exact z
theorem due_in (h : Kn ps K E) {c : PW} : c ∈ due0 K ++ K.flatMap (missing ps K) ↔ c ∈ E := by
  rw [List.mem_append, due0_mem h, List.mem_flatMap]
  constructor
  · rintro (⟨h1, h2⟩ | ⟨e, he, hc⟩)
    · rw [h.nilE h1, h2]; exact List.mem_cons_self
    · exact miss_in h he hc
  · intro hc
    by_cases hk : K = []
    · left
      refine ⟨hk, ?_⟩
      rw [h.nilE hk] at hc
      exact List.mem_singleton.mp hc
    · right
      have hne : c.2 ≠ [] := fun z => h.apart (h.nilK hk) hc z.symm
      obtain ⟨d, hd, h2⟩ := h.pare c hc hne
      have hcat := List.dropLast_concat_getLast hne
      obtain ⟨l, hl⟩ : ∃ l, l = c.2.getLast hne := ⟨_, rfl⟩
      rw [← hl, ← h2] at hcat
      have hr := h.let_ c (List.mem_append_right _ hc) l (by rw [← hcat]; simp)
      have hlt : l.toNat < (enumT ps).length := by rw [enum_len]; omega
      have hy := List.getElem_mem hlt
      rw [enum_at ps hlt] at hy
      have e1 : ((l.toNat : Nat) : Int) = l := by omega
      rw [e1] at hy
      have hin := h.ch d hd _ hy
      have e2 := h.same hin (List.mem_append_right _ hc) hcat
      refine ⟨d, hd, miss_mem.mpr ⟨ch_mem.mpr ⟨_, hy, e2.symm⟩, fun z => ?_⟩⟩
      obtain ⟨k, hk2, hk3⟩ := List.mem_map.mp z
      exact h.apart hk2 hc hk3
theorem due_nodup (h : Kn ps K E) : (due0 K ++ K.flatMap (missing ps K)).Nodup := by
  rw [List.nodup_append]
  refine ⟨by unfold due0; split <;> simp, ?_, fun a ha b hb e => ?_⟩
  · show List.Pairwise _ _
    rw [List.pairwise_flatMap]
    refine ⟨fun e _ => ?_, ?_⟩
    · unfold missing
      refine List.Pairwise.filter _ ?_
      unfold chP
      rw [List.pairwise_map]
      have := enum_nodup ps
      rw [List.nodup_iff_pairwise_ne, List.pairwise_map] at this
      exact this.imp fun {a b} hab e => hab (by
        have := congrArg Prod.snd e
        simpa using this)
    · have := h.wordsK
      rw [List.nodup_iff_pairwise_ne, List.pairwise_map] at this
      refine this.imp fun {a b} hab x hx y hy e => hab ?_
      obtain ⟨u, _, rfl⟩ := ch_mem.mp (miss_mem.mp hx).1
      obtain ⟨v, _, rfl⟩ := ch_mem.mp (miss_mem.mp hy).1
      have e2 := congrArg Prod.snd e
      dsimp only at e2
      exact (List.append_inj' e2 rfl).1
  · obtain ⟨hk, _⟩ := (due0_mem h).mp ha
    subst hk
    simp at hb
theorem due_sorted (h : Kn ps K E) : sortP (due0 K ++ K.flatMap (missing ps K)) = E :=
  ris_eqP (ris_of (due_nodup h)) (List.pairwise_append.mp h.ris).2.1 fun z => by
    rw [(sortP_perm _).mem_iff]
    exact due_in h
theorem miss_len (hl : ps.length ≤ 6) (e : PW) : (missing ps K e).length ≤ 6 := by
  unfold missing
  have := List.length_filter_le (fun c => !decide (c.2 ∈ K.map (·.2))) (chP ps e)
  rw [chP_len] at this
  omega
theorem flat_len (hl : ps.length ≤ 6) : ∀ l : List PW, (l.flatMap (missing ps K)).length ≤ 6 * l.length
  | [] => by simp
  | e :: l => by
    have := flat_len hl l
    have := miss_len (K := K) hl e
    rw [List.flatMap_cons, List.length_append, List.length_cons]
    omega
theorem flat_of {α β : Type} (p : β → Bool) (f : α → β) : ∀ l : List α, (l.flatMap fun y => if p (f y) then [f y] else []) = (l.map f).filter p
  | [] => rfl
  | x :: l => by
    rw [List.flatMap_cons, flat_of p f l, List.map_cons, List.filter_cons]
    by_cases h : p (f x) = true
    · rw [if_pos h, if_pos h]; rfl
    · rw [if_neg h, if_neg h]; rfl
theorem p_due (hl : ps.length ≤ 6) (hK : K.length ≤ 60) (h : Kn ps K E) : t_law_due ps K = some E := by
  unfold t_law_due
  obtain ⟨M, m1, m2⟩ := forT_inv (tb := fun (x : (Int × (List Int))) (s : ((List ((List Int) × Bool)))) => tb_law_due_1 x s) (l := K) (s0 := []) (fun d s => s.map (·.1) = d.map (·.2)) rfl (by
    rintro d e r hd s hs
    have hnd := h.wordsK
    rw [hd, List.map_append, List.map_cons] at hnd
    have hnot : e.2 ∉ d.map (·.2) := fun z => (List.nodup_append.mp hnd).2.2 e.2 z e.2 List.mem_cons_self rfl
    have hsl : s.length = d.length := by
      have := congrArg List.length hs
      simpa using this
    have hdl : d.length ≤ K.length := by rw [hd]; simp
    refine ⟨s ++ [(e.2, true)], ?_, by rw [List.map_append, List.map_append, hs]; rfl⟩
    show tb_law_due_1 e s = _
    unfold tb_law_due_1
    rw [ob_s (putT_new (by omega) (by rw [hs]; exact (List.nodup_append.mp hnd).1) (by rw [hs]; exact hnot))])
  have hm : ∀ w : List Int, negB true (hasT w M) = !decide (w ∈ K.map (·.2)) := fun w => by
    rw [← m2]
    cases z : hasT w M with
    | true => rw [decide_eq_true (hasT_iff.mp z)]; rfl
    | false => rw [decide_eq_false (fun y => by rw [hasT_iff.mpr y] at z; cases z)]; rfl
  have h0 : lcT [((0 : Int), ([] : (List Int)))] (fun (y4 : (Int × (List Int))) => some (negB true (hasT y4.2 M))) (fun (y4 : (Int × (List Int))) => some (y4.1, y4.2)) = some (due0 K) := by
    rw [lcT_ok (fun (y : PW) => negB true (hasT y.2 M)) (fun (y : PW) => (y.1, y.2)) (fun _ _ => rfl) (fun _ _ _ => rfl) (by simp)]
    congr 1
    unfold due0
    rw [List.filter_cons, hm]
    by_cases z : ([] : List Int) ∈ K.map (·.2)
    · rw [if_pos z, decide_eq_true z]; rfl
    · rw [if_neg z, decide_eq_false z]; rfl
  have hd0 : (due0 K).length ≤ 1 := by unfold due0; split <;> simp
  have hfl := flat_len (K := K) hl K
  rw [ob_s m1, ob_s h0, ob_s (forT_app82 (tb := fun (x : (Int × (List Int))) (s : ((List (Int × (List Int))))) => tb_law_due_2 ps M x s) (g := missing ps K) (by omega) (by
    intro e he s hs
    show tb_law_due_2 ps M e s = _
    unfold tb_law_due_2
    have hwl := h.wl e (List.mem_append_left _ he)
    obtain ⟨R, hR⟩ : ∃ R, R = (List.range ps.length).map fun (k : Nat) => (k : Int) := ⟨_, rfl⟩
    let f : Int → PW := fun x => (e.1 + ps[x.toNat]?.getD 0, e.2 ++ [x])
    have hch : R.map f = chP ps e := by
      rw [hR]
      unfold chP
      refine List.ext_getElem (by rw [List.length_map, List.length_map, List.length_map, enum_len]; simp) fun i h1 h2' => ?_
      have h2 : i < ps.length := by simpa [enum_len] using h2'
      simp only [List.getElem_map, List.getElem_range, enum_at]
      show (e.1 + ps[((i : Nat) : Int).toNat]?.getD 0, e.2 ++ [(i : Int)]) = _
      rw [Int.toNat_natCast, List.getElem?_eq_getElem h2]; rfl
    have hg : (R.flatMap fun y => if (!decide ((f y).2 ∈ K.map (·.2))) = true then [f y] else []) = missing ps K e := by
      rw [flat_of (fun c : PW => !decide (c.2 ∈ K.map (·.2))) f, hch]; rfl
    have hml := miss_len (K := K) hl e
    rw [ob_s (rngT_n (by omega)), ← hR, ob_s (forT_app82 (tb := fun (x : Int) (s : ((List (Int × (List Int))))) => tb_law_due_3 M e.2 e.1 ps x s) (g := fun y => if (!decide ((f y).2 ∈ K.map (·.2))) = true then [f y] else []) (by rw [hg]; omega) (by
      intro x hx s hs
      rw [hR] at hx
      obtain ⟨l, hl2, rfl⟩ := List.mem_map.mp hx
      have hl2 := List.mem_range.mp hl2
      have hcat : catT e.2 [(l : Int)] = some (e.2 ++ [(l : Int)]) := catT_ok (by simp; omega)
      have hf : f (l : Int) = (e.1 + ps[l], e.2 ++ [(l : Int)]) := by
        show (e.1 + ps[((l : Nat) : Int).toNat]?.getD 0, e.2 ++ [(l : Int)]) = _
        rw [Int.toNat_natCast, List.getElem?_eq_getElem hl2]; rfl
      try dsimp only at hs ⊢
      rw [hf] at hs ⊢
      try dsimp only at hs ⊢
      unfold tb_law_due_3
      rw [ob_s hcat, hm]
      by_cases z : (!decide ((e.2 ++ [(l : Int)]) ∈ K.map (·.2))) = true
      · rw [if_pos z] at hs
        rw [if_pos z, if_pos z, ob_s (atI_n hl2), ob_s hcat, ob_s (appT_ok (by simp at hs; omega))]
        rfl
      · rw [if_neg z, if_neg z, List.append_nil]; rfl)), hg])), sortO_P, due_sorted h]
theorem knot_pre (h : Kn ps K E) : ∀ (n i : Nat) (e : PW) (u : List Int), i < n → K[i]? = some e → u <+: e.2 → ∃ d ∈ K, d.2 = u
  | 0, i, e, u, hn, _, _ => by omega
  | n + 1, i, e, u, hn, hi, hu => by
    by_cases he : u = e.2
    · exact ⟨e, List.mem_of_getElem? hi, he.symm⟩
    · have hne : e.2 ≠ [] := fun z => he (by rw [z] at hu ⊢; exact List.prefix_nil.mp hu)
      obtain ⟨j, d, j1, j2, j3⟩ := h.par i e hi hne
      refine knot_pre h n j d u (by omega) j2 ?_
      rw [j3]
      rw [← List.dropLast_concat_getLast hne] at hu he
      rcases List.prefix_concat_iff.mp hu with z | z
      · exact absurd z he
      · exact z
theorem end_pre (h : Kn ps K E) {e d : PW} (he : e ∈ E) (hd : d ∈ E) (hp : d.2 <+: e.2) : d.2 = e.2 := by
  by_cases hq : d.2 = e.2
  · exact hq
  · exfalso
    have hne : e.2 ≠ [] := fun z => hq (by rw [z] at hp ⊢; exact List.prefix_nil.mp hp)
    obtain ⟨c, hc, c2⟩ := h.pare e he hne
    obtain ⟨i, hi, hi2⟩ := List.mem_iff_getElem.mp hc
    have hp2 : d.2 <+: c.2 := by
      rw [c2]
      rw [← List.dropLast_concat_getLast hne] at hp hq
      rcases List.prefix_concat_iff.mp hp with z | z
      · exact absurd z hq
      · exact z
    obtain ⟨k, hk, hk2⟩ := knot_pre h (i + 1) i c d.2 (by omega) (by rw [List.getElem?_eq_getElem hi, hi2]) hp2
    exact h.apart hk hd hk2
theorem wordsE (h : Kn ps K E) : (E.map (·.2)).Nodup := by
  have := h.words
  rw [List.map_append] at this
  exact (List.nodup_append.mp this).2.1
theorem p_apart (hE : E.length ≤ 1000) (h : Kn ps K E) : t_law_apart (E.map (·.2)) = some true := by
  unfold t_law_apart
  have hs : sortWT (E.map (·.2)) = some (sortW (E.map (·.2))) := by
    unfold sortWT
    refine if_pos ?_
    by_cases hk : K = []
    · right
      rw [h.nilE hk]; simp
    · left
      intro w hw
      obtain ⟨e, he, rfl⟩ := List.mem_map.mp hw
      exact fun z => h.apart (h.nilK hk) he z.symm
  obtain ⟨W, hW⟩ : ∃ W, W = sortW (E.map (·.2)) := ⟨_, rfl⟩
  have hp : W.Perm (E.map (·.2)) := hW ▸ sortW_perm _
  have hn : W.Nodup := hp.nodup_iff.mpr (wordsE h)
  have hlen : W.length ≤ 1000 := by rw [hp.length_eq, List.length_map]; exact hE
  rw [ob_s hs, ← hW]
  have hr : rngT (1 : Int) (W.length : Int) = some ((List.range' 1 (W.length - 1)).map fun (k : Nat) => (k : Int)) := rngT_nn (a := 1) (b := W.length) (by omega) (by omega)
  rw [ob_s hr]
  unfold bindR
  rw [ob_s (forR_go (tb := fun (x : Int) (s : Unit) => tb_law_apart_1 W x) (by
    intro x hx
    obtain ⟨i, hi, rfl⟩ := List.mem_map.mp hx
    rw [List.mem_range'_1] at hi
    show tb_law_apart_1 W (i : Int) = _
    unfold tb_law_apart_1
    have a1 : atI W (i : Int) = some (W[i]'(by omega)) := atI_n (by omega)
    have e1 : (i : Int) - 1 = ((i - 1 : Nat) : Int) := by omega
    have a2 : atI W ((i : Int) - 1) = some (W[i - 1]'(by omega)) := by rw [e1]; exact atI_n (by omega)
    rw [ob_s a1, ob_s a2, ob_s a2, if_neg]
    simp only [decide_eq_true_eq]
    intro z
    have hc : ∀ (l : List Int) (n : Nat), cutD l none (some (n : Int)) = l.take n := fun l n => by rw [cut_to _ (by omega)]; rfl
    rw [hc] at z
    have hpre : W[i - 1]'(by omega) <+: W[i]'(by omega) := by
      rw [← z]; exact List.take_prefix _ _
    obtain ⟨e, he, e2⟩ := List.mem_map.mp (hp.mem_iff.mp (List.getElem_mem (l := W) (n := i) (by omega)))
    obtain ⟨d, hd, d2⟩ := List.mem_map.mp (hp.mem_iff.mp (List.getElem_mem (l := W) (n := i - 1) (by omega)))
    rw [← e2, ← d2] at hpre
    have heq := end_pre h he hd hpre
    rw [e2, d2] at heq
    rw [List.nodup_iff_pairwise_ne] at hn
    exact List.pairwise_iff_getElem.mp hn (i - 1) i (by omega) (by omega) (by omega) heq))]
  rfl
theorem p_pair (hK : K.length ≤ 60) (h : Kn ps K E) {e : PW} (he : e ∈ E) : t_law_pair_whole e = some true := by
  unfold t_law_pair_whole
  have hw := h.wl e (List.mem_append_right _ he)
  have t1 : ∀ x : Int, t_law_whole (some x) = some true := fun _ => rfl
  rw [ob_s (t1 _), if_pos rfl, ob_s (lcT_map (fun _ => true) (fun x _ => by rw [ob_s (t1 _)]) (by omega))]
  rw [Option.bind_some]
  congr 1
  rw [List.all_eq_true]
  intro b hb
  obtain ⟨_, _, rfl⟩ := List.mem_map.mp hb
  rfl
end
theorem law_true (ns : List Int) (hns : ns.length ≤ 63) : t_law ns = some true := by
  unfold t_law
  obtain ⟨ps, h1, h2, h3, h4⟩ := p_prices ns
  have hc := cut_len ns (some (8 : Int)) (some (11 : Int))
  rw [ob_s h1, ob_s (catT_ok (by simp; omega))]
  unfold bindR
  rw [ob_s (forR_go (tb := fun (x : Int) (s : Unit) => tb_law_1 ps x) (by
    intro c _
    show tb_law_1 ps c = _
    unfold tb_law_1
    obtain ⟨m, m1, m2⟩ := p_many c
    obtain ⟨K, E, k1, k2, k3⟩ := p_grown82 (ps := ps) (fun x hx => (h2 x hx).1) ⟨h3, h4⟩ m2
    have hlen := k3.len
    have hb : K.length * ps.length ≤ 60 * 6 := Nat.mul_le_mul (by omega) h4
    have hE : E.length ≤ 1000 := by omega
    have hmul : mulT (m : Int) ((ps.length : Int) - 1) = some ((m : Int) * ((ps.length : Int) - 1)) := mulT_r (by omega)
    have hend : decide ((E.length : Int) = (m : Int) * ((ps.length : Int) - 1) + 1) = true := by
      refine decide_eq_true ?_
      rw [k2] at hlen
      have hz : (E.length : Int) + m = 1 + (m : Int) * (ps.length : Int) := by exact_mod_cast hlen
      rw [Int.mul_sub]
      omega
    have hall : (E.map fun _ => true).all id = true := by
      rw [List.all_eq_true]
      intro b hb
      obtain ⟨_, _, rfl⟩ := List.mem_map.mp hb
      rfl
    rw [ob_s m1, ob_s (ok_s (p_ends m2 k1)), ob_s (ok_s (p_cheapest m2 k1)), ob_s (p_due h4 (by omega) k3)]
    simp only [Bool.not_true, Bool.false_eq_true, if_false, decide_true]
    rw [ob_s hmul, hend]
    simp only [Bool.not_true, Bool.false_eq_true, if_false, Option.bind_some]
    rw [ob_s (lcT_map (fun e : PW => e.2) (fun _ _ => rfl) (by omega)), ob_s (p_apart hE k3)]
    simp only [Bool.not_true, Bool.false_eq_true, if_false]
    rw [ob_s (lcT_map (fun e : PW => true) (fun e he => by rw [ob_s (p_pair (by omega) k3 he)]) (by omega)), hall]
    simp only [Bool.not_true, Bool.false_eq_true, if_false, Option.bind_some]
    rw [ob_s (ok_s (p_ends m2 k1))]
    simp only [decide_true, Bool.not_true, Bool.false_eq_true, if_false]))]
  rfl
theorem main_ok : ∀ ns : List Int, ns.length ≤ 63 → (∀ z ∈ ns, Builtin.Int.intBits z ≤ 1048576) → ∃ os, T.pg.den 16 f_law.name [.dat (.scr (ns.map .int))] = .ok (.dat (.bl true)) os := fun ns h _ => ⟨_, s_law (m := 16) (by omega) ns true (law_true ns h)⟩
end Z
namespace Z
open PySem L2 FL
abbrev RL : PySem.W.OpenLaw := PySem.Challenge.rw_lettertoll_k82_ends_of_knots
abbrev RR : PySem.W.OpenRow := PySem.W.OpenLaw.row RL
noncomputable abbrev hk : PySem.W.Hook := hookF 4 T
def ob (s : PySem.W.SharedT) : AlF := obF 4 T (HandSHeadRun.getT s)
theorem ob_eq (s : PySem.W.SharedT) : ob s = hk.obs s.abs := obF_eq (HandSHeadRun.getT_eq s)
def loose : List Str := ("TollError" : Str) :: ("BadNumber" : Str) :: ("TooMany" : Str) :: ("MOST_KNOTS" : Str) :: ("look_at_many" : Str) :: ("ends_behind" : Str) :: ("grown" : Str) :: ("cheapest_knots" : Str) :: ("ends_of" : Str) :: ("_law_cell_at" : Str) :: ("_law_whole" : Str) :: ("_law_amount" : Str) :: ("_law_prices" : Str) :: ("_law_many" : Str) :: ("_law_due" : Str) :: ("_law_pair_whole" : Str) :: ("_law_apart" : Str) :: []
theorem run (w : World) : HandSHeadRun.RunEq RR (PySem.W.view RR.prog [20]) hk ob 6000 loose w := by
  intro os
  kernel_rfl
end Z
open PySem PySem.W PySem.Calls PyProof.Rows
theorem PySem.Challenge.cw_lettertoll_k82_ends_of_knots_holds : PySem.Challenge.rw_lettertoll_k82_ends_of_knots.Holds := by
  w_on; o_law
  refine HandSHeadRun.head_any (r := Z.RR) (q := view Z.RR.prog [20]) (H := Z.hk) (ob := Z.ob) (M := 6000) (loose := Z.loose) (d := HandSHeadRun.topDef Z.RR.prog 20) (kwd := []) Z.ob_eq
    (by kernel_rfl) (fun s => by kernel_rfl) Z.run (by kernel_rfl) (by kernel_rfl) (by kernel_rfl) (by rfl) (by first | assumption | decide +kernel) (by decide +kernel) ⟨rfl, rfl, rfl, rfl, rfl, by decide +kernel⟩ ?hw ?hc
  case hw => w_witness2
  case hc =>
    exact FL.walk_FL (T := Z.T) (l := Z.RL) (m := 4) (k := 16) (f := Z.f_law) (x := "script") rfl (by kernel_rfl) ⟨rfl, by decide, by decide⟩ (by kernel_rfl) Z.hs Z.hb rfl rfl Z.main_ok
