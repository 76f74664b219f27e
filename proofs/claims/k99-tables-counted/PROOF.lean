import PyProof.Rows.All
import HandS.ForMost
import HandS.ForExc
import HandS.Deep
import HandS.TupAny
import HandS.SortRule
import HandS.SortInts
import HandS.IsInst
import HandS.Conv
import HandS.Wide
import PySem.Challenge.RW_boxwood_k99_whole_tables_counted
set_option Elab.async false
set_option linter.all false
set_option maxRecDepth 100000
/-! A layer of trees over the abstract heap: what is read is data, what is changed is owned by a slot. -/
namespace TL
open PySem PySem.Spec PyProof.Rows L2
abbrev D := PyData
abbrev Fg := PySem.W.Frag
def kD : Key → D
  | .inl i => .int i
  | .inr x => .str x
def kTD (ks : List Key) : D := .tuple (ks.map kD)

mutual
inductive Rep (K : Fg) (F : Hp) : V → D → Prop
  | non : Rep K F .non .none
  | bl (b : Bool) : Rep K F (.bl b) (.bool b)
  | int (i : Int) : Rep K F (.int i) (.int i)
  | str (x : Str) : Rep K F (.str x) (.str x)
  | lst {a : Addr} {vs : List V} {ds : List D} : F a = some (.lst vs) → Reps K F vs ds → Rep K F (.ref a) (.list ds)
  | tup {a : Addr} {vs : List V} {ds : List D} : SqT K F a vs → Reps K F vs ds → Rep K F (.ref a) (.tuple ds)
  | dK {a : Addr} {kvs : List (Key × V)} {ds : List (D × D)} : F a = some (.dK kvs) → RepK K F kvs ds → Rep K F (.ref a) (.dict ds)
  | dT {a : Addr} {kvs : List (List Key × V)} {ds : List (D × D)} : F a = some (.dT kvs) → RepT K F kvs ds → Rep K F (.ref a) (.dict ds)
inductive Reps (K : Fg) (F : Hp) : List V → List D → Prop
  | nil : Reps K F [] []
  | cons {v : V} {vs : List V} {d : D} {ds : List D} : Rep K F v d → Reps K F vs ds → Reps K F (v :: vs) (d :: ds)
inductive RepK (K : Fg) (F : Hp) : List (Key × V) → List (D × D) → Prop
  | nil : RepK K F [] []
  | cons {k : Key} {v : V} {kvs : List (Key × V)} {d : D} {ds : List (D × D)} : Rep K F v d → RepK K F kvs ds → RepK K F ((k, v) :: kvs) ((kD k, d) :: ds)
inductive RepT (K : Fg) (F : Hp) : List (List Key × V) → List (D × D) → Prop
  | nil : RepT K F [] []
  | cons {k : List Key} {v : V} {kvs : List (List Key × V)} {d : D} {ds : List (D × D)} : Rep K F v d → RepT K F kvs ds → RepT K F ((k, v) :: kvs) ((kTD k, d) :: ds)
end

/-- grown -/
def Gr (F F' : Hp) : Prop := ∀ a u, F a = some u → F' a = some u
theorem Gr.refl (F : Hp) : Gr F F := fun _ _ h => h
theorem Gr.trans {F F1 F2 : Hp} (h : Gr F F1) (h' : Gr F1 F2) : Gr F F2 := fun a u e => h' a u (h a u e)
theorem Gr.sqT {K : Fg} {F F' : Hp} (g : Gr F F') {a : Addr} {vs : List V} (h : SqT K F a vs) : SqT K F' a vs := by
  rcases h with (h | ⟨o, h⟩) | h
  · exact .inl (.inl (g _ _ h))
  · exact .inl (.inr ⟨o, g _ _ h⟩)
  · exact .inr h
mutual
theorem Rep.gr {K : Fg} {F F' : Hp} (g : Gr F F') : ∀ {v : V} {d : D}, Rep K F v d → Rep K F' v d
  | _, _, .non => .non
  | _, _, .bl b => .bl b
  | _, _, .int i => .int i
  | _, _, .str x => .str x
  | _, _, .lst e r => .lst (g _ _ e) (Reps.gr g r)
  | _, _, .tup e r => .tup (g.sqT e) (Reps.gr g r)
  | _, _, .dK e r => .dK (g _ _ e) (RepK.gr g r)
  | _, _, .dT e r => .dT (g _ _ e) (RepT.gr g r)
theorem Reps.gr {K : Fg} {F F' : Hp} (g : Gr F F') : ∀ {vs : List V} {ds : List D}, Reps K F vs ds → Reps K F' vs ds
  | _, _, .nil => .nil
  | _, _, .cons h t => .cons (Rep.gr g h) (Reps.gr g t)
theorem RepK.gr {K : Fg} {F F' : Hp} (g : Gr F F') : ∀ {vs : List (Key × V)} {ds : List (D × D)}, RepK K F vs ds → RepK K F' vs ds
  | _, _, .nil => .nil
  | _, _, .cons h t => .cons (Rep.gr g h) (RepK.gr g t)
theorem RepT.gr {K : Fg} {F F' : Hp} (g : Gr F F') : ∀ {vs : List (List Key × V)} {ds : List (D × D)}, RepT K F vs ds → RepT K F' vs ds
  | _, _, .nil => .nil
  | _, _, .cons h t => .cons (Rep.gr g h) (RepT.gr g t)
end
section
variable {K : Fg} {F : Hp}
theorem Reps.length : ∀ {vs : List V} {ds : List D}, Reps K F vs ds → vs.length = ds.length
  | _, _, .nil => rfl
  | _, _, .cons _ t => congrArg (· + 1) t.length
theorem Reps.append : ∀ {vs us : List V} {ds es : List D}, Reps K F vs ds → Reps K F us es → Reps K F (vs ++ us) (ds ++ es)
  | _, _, _, _, .nil, r => r
  | _, _, _, _, .cons h t, r => .cons h (t.append r)
theorem Reps.take : ∀ (n : Nat) {vs : List V} {ds : List D}, Reps K F vs ds → Reps K F (vs.take n) (ds.take n)
  | 0, _, _, _ => .nil
  | _ + 1, _, _, .nil => .nil
  | n + 1, _, _, .cons h t => .cons h (Reps.take n t)
theorem Reps.drop : ∀ (n : Nat) {vs : List V} {ds : List D}, Reps K F vs ds → Reps K F (vs.drop n) (ds.drop n)
  | 0, _, _, r => r
  | _ + 1, _, _, .nil => .nil
  | n + 1, _, _, .cons _ t => Reps.drop n t
theorem Reps.get : ∀ {vs : List V} {ds : List D} {i : Nat} {d : D}, Reps K F vs ds → ds[i]? = some d → ∃ v, vs[i]? = some v ∧ Rep K F v d
  | _, _, _, _, .nil, e => by simp at e
  | _, _, 0, _, .cons h _, e => by simp at e; subst e; exact ⟨_, rfl, h⟩
  | _, _, i + 1, d, .cons _ t, e => by
    obtain ⟨u, h1, h2⟩ := Reps.get (i := i) (d := d) t (by simpa using e)
    exact ⟨u, by simpa using h1, h2⟩
theorem Reps.get' : ∀ {vs : List V} {ds : List D} {i : Nat} {v : V}, Reps K F vs ds → vs[i]? = some v → ∃ d, ds[i]? = some d ∧ Rep K F v d
  | _, _, _, _, .nil, e => by simp at e
  | _, _, 0, _, .cons h _, e => by simp at e; subst e; exact ⟨_, rfl, h⟩
  | _, _, i + 1, d, .cons _ t, e => by
    obtain ⟨u, h1, h2⟩ := Reps.get' (i := i) (v := d) t (by simpa using e)
    exact ⟨u, by simpa using h1, h2⟩
theorem Reps.set {v : V} {d : D} (h : Rep K F v d) : ∀ (i : Nat) {vs : List V} {ds : List D}, Reps K F vs ds → Reps K F (vs.set i v) (ds.set i d)
  | _, _, _, .nil => .nil
  | 0, _, _, .cons _ t => .cons h t
  | i + 1, _, _, .cons g t => .cons g (Reps.set h i t)
theorem Reps.eraseIdx : ∀ (i : Nat) {vs : List V} {ds : List D}, Reps K F vs ds → Reps K F (vs.eraseIdx i) (ds.eraseIdx i)
  | _, _, _, .nil => .nil
  | 0, _, _, .cons _ t => t
  | i + 1, _, _, .cons g t => .cons g (Reps.eraseIdx i t)
theorem Reps.reverse : ∀ {vs : List V} {ds : List D}, Reps K F vs ds → Reps K F vs.reverse ds.reverse
  | _, _, .nil => .nil
  | _, _, .cons h t => by
    rw [List.reverse_cons, List.reverse_cons]
    exact t.reverse.append (.cons h .nil)
theorem RepK.length : ∀ {vs : List (Key × V)} {ds : List (D × D)}, RepK K F vs ds → vs.length = ds.length
  | _, _, .nil => rfl
  | _, _, .cons _ t => congrArg (· + 1) t.length
theorem RepT.length : ∀ {vs : List (List Key × V)} {ds : List (D × D)}, RepT K F vs ds → vs.length = ds.length
  | _, _, .nil => rfl
  | _, _, .cons _ t => congrArg (· + 1) t.length
end

def isDic : HO → Bool
  | .dK _ => true
  | .dT _ => true
  | _ => false
/-- what is frozen stands in the heap -/
def Sub (F H : Hp) : Prop := ∀ a u, F a = some u → H a = some u ∨ (isDic u = true ∧ ∃ o, H a = some (.frz o u))
theorem Sub.rd {F H : Hp} (s : Sub F H) {a : Addr} {u : HO} (h : F a = some u) : Rd H a u := by
  rcases s a u h with h | ⟨_, o, h⟩
  · exact .inl h
  · exact .inr ⟨o, h⟩
theorem Sub.lst {F H : Hp} (s : Sub F H) {a : Addr} {vs : List V} (h : F a = some (.lst vs)) : H a = some (.lst vs) := by
  rcases s a _ h with h | ⟨z, _⟩
  · exact h
  · cases z
theorem Sub.sqT {K : Fg} {F H : Hp} (s : Sub F H) {a : Addr} {vs : List V} (h : SqT K F a vs) : SqT K H a vs := by
  rcases h with (h | ⟨o, h⟩) | h
  · exact .inl (s.rd h)
  · rcases s a _ h with h | ⟨z, _⟩
    · exact .inl (.inr ⟨o, h⟩)
    · cases z
  · exact .inr h
theorem Sub.none {F H : Hp} (s : Sub F H) {a : Addr} (h : H a = none) : F a = none := by
  cases e : F a with
  | none => rfl
  | some u =>
    rcases s a u e with q | ⟨_, o, q⟩ <;> rw [h] at q <;> cases q
/-- what is said of a shared changing thing -/
abbrev MI := Hp → HO → Prop
abbrev Om := Addr → Option MI
structure Wd (F : Hp) (Ω : Om) (H : Hp) : Prop where
  sub : Sub F H
  om : ∀ a I, Ω a = some I → F a = none ∧ (∃ o, H a = some o ∧ I F o) ∧ ∀ F1 F2 o, Gr F1 F2 → I F1 o → I F2 o
structure Ext (F : Hp) (Ω : Om) (H F' : Hp) (Ω' : Om) (H' : Hp) : Prop where
  sub : Gr F F'
  new : ∀ a, H a ≠ none → F' a = F a
  keep : ∀ a o, H a = some o → Ω a = none → H' a = some o
  here : ∀ a, H a ≠ none → H' a ≠ none
  omg : ∀ a I, Ω a = some I → Ω' a = some I
  omn : ∀ a, H a ≠ none → Ω' a = Ω a
  wd : Wd F' Ω' H'
theorem Ext.refl {F : Hp} {Ω : Om} {H : Hp} (w : Wd F Ω H) : Ext F Ω H F Ω H := ⟨Gr.refl _, fun _ _ => rfl, fun _ _ h _ => h, fun _ h => h, fun _ _ h => h, fun _ _ => rfl, w⟩
theorem Ext.trans {F F1 F2 : Hp} {Ω Ω1 Ω2 : Om} {H H1 H2 : Hp} (a : Ext F Ω H F1 Ω1 H1) (b : Ext F1 Ω1 H1 F2 Ω2 H2) : Ext F Ω H F2 Ω2 H2 where
  sub := a.sub.trans b.sub
  new := fun c h => (b.new c (a.here c h)).trans (a.new c h)
  keep := fun c o h w => b.keep c o (a.keep c o h w) ((a.omn c (by rw [h]; simp)).trans w)
  here := fun c h => b.here c (a.here c h)
  omg := fun c I h => b.omg c I (a.omg c I h)
  omn := fun c h => (b.omn c (a.here c h)).trans (a.omn c h)
  wd := b.wd
theorem Ext.free {F F1 : Hp} {Ω Ω1 : Om} {H H1 : Hp} (a : Ext F Ω H F1 Ω1 H1) {c : Addr} (h : H1 c = none) : H c = none := by
  cases e : H c with
  | none => rfl
  | some u => exact absurd h (a.here c (by rw [e]; simp))
/-- a thing is laid anew, not frozen -/
theorem Ext.laid {F : Hp} {Ω : Om} {H : Hp} (w : Wd F Ω H) {p : Addr} {o : HO} (h : H p = none) : Ext F Ω H F Ω (upd H p o) where
  sub := Gr.refl _
  new := fun _ _ => rfl
  keep := fun a u e _ => by rw [upd_ne (ne_of_none e h)]; exact e
  here := fun a e => by
    by_cases z : a = p
    · rw [z, upd_same]; simp
    · rw [upd_ne z]; exact e
  omg := fun _ _ h => h
  omn := fun _ _ => rfl
  wd := ⟨fun a u e => by
      have z : a ≠ p := fun z => by
        rw [z, w.sub.none h] at e
        cases e
      rw [upd_ne z]
      exact w.sub a u e, fun a I e => by
      obtain ⟨h1, ⟨u, hu, hi⟩, m⟩ := w.om a I e
      exact ⟨h1, ⟨u, by rw [upd_ne (ne_of_none hu h)]; exact hu, hi⟩, m⟩⟩
/-- .. and frozen -/
theorem Ext.laidF {F : Hp} {Ω : Om} {H : Hp} (w : Wd F Ω H) {p : Addr} {o : HO} (h : H p = none) : Ext F Ω H (upd F p o) Ω (upd H p o) where
  sub := fun a u e => by
    have z : a ≠ p := fun z => by
      rw [z, w.sub.none h] at e
      cases e
    rw [upd_ne z]
    exact e
  new := fun a e => upd_ne fun z => e (by rw [z]; exact h)
  keep := fun a u e _ => by rw [upd_ne (ne_of_none e h)]; exact e
  here := fun a e => by
    by_cases z : a = p
    · rw [z, upd_same]; simp
    · rw [upd_ne z]; exact e
  omg := fun _ _ h => h
  omn := fun _ _ => rfl
  wd := by
    have g : Gr F (upd F p o) := fun a u e => by
      have z : a ≠ p := fun z => by
        rw [z, w.sub.none h] at e
        cases e
      rw [upd_ne z]
      exact e
    refine ⟨fun a u e => ?_, fun a I e => ?_⟩
    · by_cases z : a = p
      · rw [z, upd_same] at e
        rw [z, upd_same]
        exact .inl e
      · rw [upd_ne z] at e
        rw [upd_ne z]
        exact w.sub a u e
    · obtain ⟨h1, ⟨u, hu, hi⟩, m⟩ := w.om a I e
      have z := ne_of_none hu h
      exact ⟨by rw [upd_ne z]; exact h1, ⟨u, by rw [upd_ne z]; exact hu, m _ _ _ g hi⟩, m⟩

/-- what a slot holds -/
inductive C where
  | un
  | sh (d : D)
  | ol (ds : List D)
  | oll (dss : List (List D))
  | od (kvs : List (Key × D))
  | odT (kvs : List (List Key × D))
  | mo (I : MI)
/-- lists of one's own at the addresses as -/
inductive RLL (K : Fg) (F H : Hp) : List V → List (List D) → List Addr → Prop
  | nil : RLL K F H [] [] []
  | cons {a : Addr} {vs us : List V} {ds : List D} {dss : List (List D)} {as : List Addr} : H a = some (.lst vs) → Reps K F vs ds → RLL K F H us dss as → RLL K F H (.ref a :: us) (ds :: dss) (a :: as)
inductive RKV (K : Fg) (F : Hp) {κ : Type} : List (κ × V) → List (κ × D) → Prop
  | nil : RKV K F [] []
  | cons {k : κ} {v : V} {kvs : List (κ × V)} {d : D} {ds : List (κ × D)} : Rep K F v d → RKV K F kvs ds → RKV K F ((k, v) :: kvs) ((k, d) :: ds)
def RC (K : Fg) (F : Hp) (Ω : Om) (H : Hp) : C → V → List Addr → Prop
  | .un, _, A => A = []
  | .sh d, v, A => Rep K F v d ∧ A = []
  | .ol ds, v, A => ∃ a vs, v = .ref a ∧ A = [a] ∧ H a = some (.lst vs) ∧ Reps K F vs ds
  | .oll dss, v, A => ∃ a vs as, v = .ref a ∧ A = a :: as ∧ H a = some (.lst vs) ∧ RLL K F H vs dss as ∧ (a :: as).Nodup
  | .od kvs, v, A => ∃ a ks, v = .ref a ∧ A = [a] ∧ H a = some (.dK ks) ∧ RKV K F ks kvs
  | .odT kvs, v, A => ∃ a ks, v = .ref a ∧ A = [a] ∧ H a = some (.dT ks) ∧ RKV K F ks kvs
  | .mo I, v, A => ∃ a, v = .ref a ∧ Ω a = some I ∧ A = []
theorem RLL.go {K : Fg} {F F' H H' : Hp} (g : Gr F F') : ∀ {vs : List V} {dss : List (List D)} {as : List Addr}, (∀ a ∈ as, ∀ o, H a = some o → H' a = some o) → RLL K F H vs dss as → RLL K F' H' vs dss as
  | _, _, _, _, .nil => .nil
  | _, _, _, h, .cons e r t => .cons (h _ List.mem_cons_self _ e) (r.gr g) (t.go g fun a m => h a (List.mem_cons_of_mem _ m))
theorem RKV.gr {K : Fg} {F F' : Hp} (g : Gr F F') {κ : Type} : ∀ {vs : List (κ × V)} {ds : List (κ × D)}, RKV K F vs ds → RKV K F' vs ds
  | _, _, .nil => .nil
  | _, _, .cons h t => .cons (h.gr g) (t.gr g)
theorem RC.go {K : Fg} {F F' : Hp} {Ω Ω' : Om} {H H' : Hp} {c : C} {v : V} {A : List Addr} (g : Gr F F') (h : ∀ a ∈ A, ∀ o, H a = some o → H' a = some o) (ho : ∀ a I, Ω a = some I → Ω' a = some I) (r : RC K F Ω H c v A) : RC K F' Ω' H' c v A := by
  cases c with
  | un => exact r
  | sh d => exact ⟨r.1.gr g, r.2⟩
  | ol ds =>
    obtain ⟨a, vs, rfl, rfl, e, q⟩ := r
    exact ⟨a, vs, rfl, rfl, h a List.mem_cons_self _ e, q.gr g⟩
  | oll dss =>
    obtain ⟨a, vs, as, rfl, rfl, e, q, nd⟩ := r
    exact ⟨a, vs, as, rfl, rfl, h a List.mem_cons_self _ e, q.go g fun b m => h b (List.mem_cons_of_mem _ m), nd⟩
  | od kvs =>
    obtain ⟨a, vs, rfl, rfl, e, q⟩ := r
    exact ⟨a, vs, rfl, rfl, h a List.mem_cons_self _ e, q.gr g⟩
  | odT kvs =>
    obtain ⟨a, vs, rfl, rfl, e, q⟩ := r
    exact ⟨a, vs, rfl, rfl, h a List.mem_cons_self _ e, q.gr g⟩
  | mo I =>
    obtain ⟨a, rfl, e, rfl⟩ := r
    exact ⟨a, rfl, ho a I e, rfl⟩
/-- owned: neither frozen nor shared -/
def Ow (F : Hp) (Ω : Om) (A : List Addr) : Prop := ∀ a ∈ A, F a = none ∧ Ω a = none
theorem RC.there {K : Fg} {F : Hp} {Ω : Om} {H : Hp} {c : C} {v : V} {A : List Addr} (r : RC K F Ω H c v A) : ∀ a ∈ A, H a ≠ none := by
  cases c with
  | un => intro a m; rw [show A = [] from r] at m; cases m
  | sh d => intro a m; rw [r.2] at m; cases m
  | ol ds =>
    obtain ⟨a, vs, rfl, rfl, e, q⟩ := r
    intro b m; rw [List.mem_singleton.mp m, e]; simp
  | oll dss =>
    obtain ⟨a, vs, as, rfl, rfl, e, q, nd⟩ := r
    have key : ∀ {vs : List V} {dss : List (List D)} {as : List Addr}, RLL K F H vs dss as → ∀ b ∈ as, H b ≠ none := by
      intro vs dss as q
      induction q with
      | nil => intro b m; cases m
      | cons e _ _ ih =>
        intro b m
        rcases List.mem_cons.mp m with rfl | m
        · rw [e]; simp
        · exact ih b m
    intro b m
    rcases List.mem_cons.mp m with rfl | m
    · rw [e]; simp
    · exact key q b m
  | od kvs =>
    obtain ⟨a, vs, rfl, rfl, e, q⟩ := r
    intro b m; rw [List.mem_singleton.mp m, e]; simp
  | odT kvs =>
    obtain ⟨a, vs, rfl, rfl, e, q⟩ := r
    intro b m; rw [List.mem_singleton.mp m, e]; simp
  | mo I =>
    obtain ⟨a, rfl, e, rfl⟩ := r
    intro b m; cases m
theorem RC.ext {K : Fg} {F F' : Hp} {Ω Ω' : Om} {H H' : Hp} {c : C} {v : V} {A : List Addr} (x : Ext F Ω H F' Ω' H') (o : Ow F Ω A) (r : RC K F Ω H c v A) : RC K F' Ω' H' c v A :=
  r.go x.sub (fun a m u e => x.keep a u e (o a m).2) x.omg
theorem Ow.ext {F F' : Hp} {Ω Ω' : Om} {H H' : Hp} {A : List Addr} (x : Ext F Ω H F' Ω' H') (o : Ow F Ω A) (h : ∀ a ∈ A, H a ≠ none) : Ow F' Ω' A := fun a m =>
  ⟨(x.new a (h a m)).trans (o a m).1, (x.omn a (h a m)).trans (o a m).2⟩

/-- the state at a def's entry -/
structure Bs where
  F : Hp
  Ω : Om
  H : Hp
structure En (K : Fg) (B : Bs) (F : Hp) (Ω : Om) (H : Hp) (σ : L2.St) (ρ : List C) : Prop where
  ex : Ext B.F B.Ω B.H F Ω H
  len : ρ.length = σ.length
  own : ∃ As : Nat → List Addr, (∀ i c, ρ[i]? = some c → c ≠ .un → ∃ v, σ[i]? = some (some v) ∧ RC K F Ω H c v (As i)) ∧
    (∀ i, ∀ a ∈ As i, F a = none ∧ Ω a = none ∧ H a ≠ none ∧ B.H a = none) ∧ ∀ i j, i ≠ j → ∀ a ∈ As i, a ∉ As j
theorem En.ext {K : Fg} {B : Bs} {F F' : Hp} {Ω Ω' : Om} {H H' : Hp} {σ : L2.St} {ρ : List C} (e : En K B F Ω H σ ρ) (x : Ext F Ω H F' Ω' H') : En K B F' Ω' H' σ ρ := by
  obtain ⟨As, h1, h2, h3⟩ := e.own
  refine ⟨e.ex.trans x, e.len, As, fun i c hc hn => ?_, fun i a m => ?_, h3⟩
  · obtain ⟨v, hv, r⟩ := h1 i c hc hn
    exact ⟨v, hv, r.ext x fun a m => ⟨(h2 i a m).1, (h2 i a m).2.1⟩⟩
  · obtain ⟨a1, a2, a3, a4⟩ := h2 i a m
    exact ⟨(x.new a a3).trans a1, (x.omn a a3).trans a2, x.here a a3, a4⟩
theorem En.wd {K : Fg} {B : Bs} {F : Hp} {Ω : Om} {H : Hp} {σ : L2.St} {ρ : List C} (e : En K B F Ω H σ ρ) : Wd F Ω H := e.ex.wd
end TL
namespace TL
open PySem PySem.Spec PyProof.Rows L2
/-! ### judgements over contents -/
abbrev CK := C → Prop
abbrev TC := List C → CK → Prop
abbrev TD := List C → (D → Prop) → Prop
abbrev TB := List C → (Bool → Prop) → Prop
abbrev TL := List C → (List C → Prop) → Prop
theorem pe_imp {X : Cx} {e : Expr} {t t' : TE} (h : PE X e t) (f : ∀ σ H Q, t' σ H Q → t σ H Q) : PE X e t' := ⟨fun pins s σ H Q I w => h.run pins s σ H Q I (f σ H Q w)⟩
theorem pt_imp {X : Cx} {e : Expr} {t t' : TT} (h : PT X e t) (f : ∀ σ H Q, t' σ H Q → t σ H Q) : PT X e t' := ⟨fun pins s σ H Q I w => h.run pins s σ H Q I (f σ H Q w)⟩
theorem pw_imp {X : Cx} {e : Expr} {t t' : TT} (h : PW X e t) (f : ∀ σ H Q, t' σ H Q → t σ H Q) : PW X e t' := ⟨fun wh pins s σ H Q I w => h.run wh pins s σ H Q I (f σ H Q w)⟩
theorem pa_imp {X : Cx} {e : List Expr} {t t' : TA} (h : PA X e t) (f : ∀ σ H Q, t' σ H Q → t σ H Q) : PA X e t' := ⟨fun p pins s σ H Q I w => h.run p pins s σ H Q I (f σ H Q w)⟩
theorem ps_imp {X : Cx} {e : Stmt} {t t' : TS} (h : PS X e t) (f : ∀ D σ H, t' D σ H → t D σ H) : PS X e t' := ⟨fun pins s σ H D I w => h.run pins s σ H D I (f D σ H w)⟩
theorem pss_imp {X : Cx} {e : List Stmt} {t t' : TS} (h : PSs X e t) (f : ∀ D σ H, t' D σ H → t D σ H) : PSs X e t' := ⟨fun pins s σ H D I w => h.run pins s σ H D I (f D σ H w)⟩
/-- the end of an evaluation: the content c, made here or frozen -/
def Fin (K : Fg) (F : Hp) (Ω : Om) (H : Hp) (G : CK) (Q : VK) : Prop := ∀ c v F' Ω' H' A, Ext F Ω H F' Ω' H' → RC K F' Ω' H' c v A → Ow F' Ω' A → (∀ a ∈ A, H a = none) → G c → Q v H'
/-- .. or lent -/
def FinS (K : Fg) (F : Hp) (Ω : Om) (H : Hp) (G : CK) (Q : VK) : Prop := ∀ c v F' Ω' H' A, Ext F Ω H F' Ω' H' → RC K F' Ω' H' c v A → Ow F' Ω' A → G c → Q v H'
def FinB (F : Hp) (Ω : Om) (H : Hp) (G : Bool → Prop) (Q : Bool → Hp → Prop) : Prop := ∀ b F' Ω' H', Ext F Ω H F' Ω' H' → G b → Q b H'
def upC (K : Fg) (B : Bs) (te : TC) : TE := fun σ H Q => ∃ F Ω ρ G, En K B F Ω H σ ρ ∧ te ρ G ∧ Fin K F Ω H G Q
def upS (K : Fg) (B : Bs) (te : TC) : TE := fun σ H Q => ∃ F Ω ρ G, En K B F Ω H σ ρ ∧ te ρ G ∧ FinS K F Ω H G Q
def upB (K : Fg) (B : Bs) (tb : TB) : TT := fun σ H Q => ∃ F Ω ρ G, En K B F Ω H σ ρ ∧ tb ρ G ∧ FinB F Ω H G Q
structure VC (X : Cx) (e : Expr) (te : TC) : Prop where
  pe : ∀ B, PE X e (upC X.K B te)
structure SE (X : Cx) (e : Expr) (te : TC) : Prop where
  pe : ∀ B, PE X e (upS X.K B te)
structure VB (X : Cx) (e : Expr) (tb : TB) : Prop where
  pt : ∀ B, PT X e (upB X.K B tb)
structure WB (X : Cx) (e : Expr) (tb : TB) : Prop where
  pw : ∀ B, PW X e (upB X.K B tb)
theorem WB.vb {X : Cx} {e : Expr} {tb : TB} (h : WB X e tb) : VB X e tb := ⟨fun B => (h.pw B).pt⟩
section
variable {K : Fg} {F F1 F2 : Hp} {Ω Ω1 Ω2 : Om} {H H1 H2 : Hp} {G : CK} {Q : VK}
theorem FinS.fin (h : FinS K F Ω H G Q) : Fin K F Ω H G Q := fun c v F' Ω' H' A x r o _ g => h c v F' Ω' H' A x r o g
theorem Fin.ext (h : Fin K F Ω H G Q) (x : Ext F Ω H F1 Ω1 H1) : Fin K F1 Ω1 H1 G Q := fun c v F' Ω' H' A x' r o f g => h c v F' Ω' H' A (x.trans x') r o (fun a m => x.free (f a m)) g
theorem FinS.ext (h : FinS K F Ω H G Q) (x : Ext F Ω H F1 Ω1 H1) : FinS K F1 Ω1 H1 G Q := fun c v F' Ω' H' A x' r o g => h c v F' Ω' H' A (x.trans x') r o g
theorem FinB.ext {G : Bool → Prop} {Q : Bool → Hp → Prop} (h : FinB F Ω H G Q) (x : Ext F Ω H F1 Ω1 H1) : FinB F1 Ω1 H1 G Q := fun b F' Ω' H' x' g => h b F' Ω' H' (x.trans x') g
theorem ow_nil : Ow F Ω [] := fun _ m => nomatch m
/-- a frozen value at the end -/
theorem Fin.sh (h : Fin K F Ω H G Q) (x : Ext F Ω H F1 Ω1 H1) {v : V} {d : D} (r : Rep K F1 v d) (g : G (.sh d)) : Q v H1 := h (.sh d) v F1 Ω1 H1 [] x ⟨r, rfl⟩ ow_nil (fun _ m => nomatch m) g
theorem FinS.sh (h : FinS K F Ω H G Q) (x : Ext F Ω H F1 Ω1 H1) {v : V} {d : D} (r : Rep K F1 v d) (g : G (.sh d)) : Q v H1 := h (.sh d) v F1 Ω1 H1 [] x ⟨r, rfl⟩ ow_nil g
/-- a new list at the end -/
theorem Fin.ol (h : Fin K F Ω H G Q) (w : Wd F Ω H) {p : Addr} (n : H p = none) {vs : List V} {ds : List D} (r : Reps K F vs ds) (g : G (.ol ds)) : Q (.ref p) (upd H p (.lst vs)) :=
  h (.ol ds) _ F Ω _ [p] (Ext.laid w n) ⟨p, vs, rfl, rfl, upd_same, r⟩ (fun a m => by
    rw [List.mem_singleton.mp m]
    refine ⟨w.sub.none n, ?_⟩
    cases e : Ω p with
    | none => rfl
    | some I =>
      obtain ⟨_, ⟨o, ho, _⟩, _⟩ := w.om p I e
      rw [n] at ho
      cases ho) (fun a m => by rw [List.mem_singleton.mp m]; exact n) g
/-- a new tuple at the end -/
theorem Fin.tup (h : Fin K F Ω H G Q) (w : Wd F Ω H) {p : Addr} (n : H p = none) {vs : List V} {ds : List D} (r : Reps K F vs ds) (g : G (.sh (.tuple ds))) : Q (.ref p) (upd H p (.tup vs)) := by
  have x := Ext.laidF (o := .tup vs) w n
  exact h.sh x (.tup (.inl (.inl upd_same)) (r.gr x.sub)) g
theorem Wd.om_none (w : Wd F Ω H) {p : Addr} (n : H p = none) : Ω p = none := by
  cases e : Ω p with
  | none => rfl
  | some I =>
    obtain ⟨_, ⟨o, ho, _⟩, _⟩ := w.om p I e
    rw [n] at ho
    cases ho
end
section
variable {X : Cx} {a b e : Expr} {pos : Pos}
theorem VC.se {te : TC} (h : VC X e te) : SE X e te := ⟨fun B => pe_imp (h.pe B) fun σ H Q ⟨F, Ω, ρ, G, en, g, k⟩ => ⟨F, Ω, ρ, G, en, g, k.fin⟩⟩
/-- what is handed on as data: a thing of one's own is frozen -/
def fz : C → (D → Prop) → Prop
  | .sh d, k => k d
  | .ol ds, k => k (.list ds)
  | .oll dss, k => k (.list (dss.map .list))
  | .od kvs, k => k (.dict (kvs.map fun p => (kD p.1, p.2)))
  | .odT kvs, k => k (.dict (kvs.map fun p => (kTD p.1, p.2)))
  | _, _ => False
/-- freezing what is owned -/
theorem freeze {K : Fg} {F : Hp} {Ω : Om} {H : Hp} {c : C} {v : V} {A : List Addr} {k : D → Prop} (w : Wd F Ω H) (r : RC K F Ω H c v A) (o : Ow F Ω A) (h : fz c k) :
    ∃ F' d, Gr F F' ∧ Wd F' Ω H ∧ Rep K F' v d ∧ k d ∧ ∀ b, b ∉ A → F' b = F b := by
  have one : ∀ (a : Addr) (u : HO), H a = some u → F a = none → Ω a = none → Gr F (upd F a u) ∧ Wd (upd F a u) Ω H := by
    intro a u e f om
    have g : Gr F (upd F a u) := fun b z q => by rw [upd_ne (ne_of_none q f)]; exact q
    refine ⟨g, ⟨fun b z q => ?_, fun b I q => ?_⟩⟩
    · by_cases hb : b = a
      · rw [hb, upd_same] at q
        cases q
        rw [hb]
        exact .inl e
      · rw [upd_ne hb] at q
        exact w.sub b z q
    · obtain ⟨h1, ⟨z, hz, hi⟩, m⟩ := w.om b I q
      have hb : b ≠ a := fun z => by rw [z, om] at q; cases q
      exact ⟨by rw [upd_ne hb]; exact h1, ⟨z, hz, m _ _ _ g hi⟩, m⟩
  have many : ∀ (vs : List V) (dss : List (List D)) (as : List Addr), RLL K F H vs dss as → Ow F Ω as → as.Nodup → ∃ F', Gr F F' ∧ Wd F' Ω H ∧ Reps K F' vs (dss.map .list) ∧ ∀ b, b ∉ as → F' b = F b := by
    intro vs dss as q
    induction q with
    | nil => intro _ _; exact ⟨F, Gr.refl _, w, .nil, fun _ _ => rfl⟩
    | cons e r t ih =>
      rename_i a0 vs0 us0 ds0 dss0 as0
      intro o nd
      have nd' := List.nodup_cons.mp nd
      obtain ⟨F1, g1, w1, r1, f1⟩ := ih (fun b m => o b (List.mem_cons_of_mem _ m)) nd'.2
      have fa : F1 a0 = none := (f1 a0 nd'.1).trans (o a0 List.mem_cons_self).1
      have g : Gr F1 (upd F1 a0 (.lst vs0)) := fun b z q => by rw [upd_ne (ne_of_none q fa)]; exact q
      refine ⟨upd F1 a0 (.lst vs0), g1.trans g, ⟨fun b z q => ?_, fun b I q => ?_⟩, .cons (.lst upd_same (r.gr (g1.trans g))) (r1.gr g), fun b hb => ?_⟩
      · by_cases hb : b = a0
        · rw [hb, upd_same] at q
          cases q
          rw [hb]
          exact .inl e
        · rw [upd_ne hb] at q
          exact w1.sub b z q
      · obtain ⟨h1, ⟨z, hz, hi⟩, m⟩ := w1.om b I q
        have hb : b ≠ a0 := fun z => by rw [z, (o a0 List.mem_cons_self).2] at q; cases q
        exact ⟨by rw [upd_ne hb]; exact h1, ⟨z, hz, m _ _ _ g hi⟩, m⟩
      · rw [List.mem_cons, not_or] at hb
        rw [upd_ne hb.1]
        exact f1 b hb.2
  have kv : ∀ {F0 : Hp} {ks : List (Key × V)} {kvs : List (Key × D)}, RKV K F0 ks kvs → RepK K F0 ks (kvs.map fun p => (kD p.1, p.2)) := by
    intro F0 ks kvs q
    induction q with
    | nil => exact .nil
    | cons h _ ih => exact .cons h ih
  have kt : ∀ {F0 : Hp} {ks : List (List Key × V)} {kvs : List (List Key × D)}, RKV K F0 ks kvs → RepT K F0 ks (kvs.map fun p => (kTD p.1, p.2)) := by
    intro F0 ks kvs q
    induction q with
    | nil => exact .nil
    | cons h _ ih => exact .cons h ih
  cases c with
  | un => exact h.elim
  | sh d => exact ⟨F, d, Gr.refl _, w, r.1, h, fun _ _ => rfl⟩
  | ol ds =>
    obtain ⟨a, vs, rfl, rfl, e, q⟩ := r
    obtain ⟨g, w'⟩ := one a _ e (o a List.mem_cons_self).1 (o a List.mem_cons_self).2
    exact ⟨_, _, g, w', .lst upd_same (q.gr g), h, fun b hb => upd_ne fun z => hb (by rw [z]; exact List.mem_cons_self)⟩
  | oll dss =>
    obtain ⟨a, vs, as, rfl, rfl, e, q, nd⟩ := r
    have nd' := List.nodup_cons.mp nd
    obtain ⟨F1, g1, w1, r1, f1⟩ := many vs dss as q (fun b m => o b (List.mem_cons_of_mem _ m)) nd'.2
    have fa : F1 a = none := (f1 a nd'.1).trans (o a List.mem_cons_self).1
    have g : Gr F1 (upd F1 a (.lst vs)) := fun b z q => by rw [upd_ne (ne_of_none q fa)]; exact q
    refine ⟨upd F1 a (.lst vs), _, g1.trans g, ⟨fun b z q => ?_, fun b I q => ?_⟩, .lst upd_same (r1.gr g), h, fun b hb => ?_⟩
    · by_cases hb : b = a
      · rw [hb, upd_same] at q
        cases q
        rw [hb]
        exact .inl e
      · rw [upd_ne hb] at q
        exact w1.sub b z q
    · obtain ⟨h1, ⟨z, hz, hi⟩, m⟩ := w1.om b I q
      have hb : b ≠ a := fun z => by rw [z, (o a List.mem_cons_self).2] at q; cases q
      exact ⟨by rw [upd_ne hb]; exact h1, ⟨z, hz, m _ _ _ g hi⟩, m⟩
    · rw [List.mem_cons, not_or] at hb
      rw [upd_ne hb.1]
      exact f1 b hb.2
  | od kvs =>
    obtain ⟨a, vs, rfl, rfl, e, q⟩ := r
    obtain ⟨g, w'⟩ := one a _ e (o a List.mem_cons_self).1 (o a List.mem_cons_self).2
    exact ⟨_, _, g, w', .dK upd_same (kv (q.gr g)), h, fun b hb => upd_ne fun z => hb (by rw [z]; exact List.mem_cons_self)⟩
  | odT kvs =>
    obtain ⟨a, vs, rfl, rfl, e, q⟩ := r
    obtain ⟨g, w'⟩ := one a _ e (o a List.mem_cons_self).1 (o a List.mem_cons_self).2
    exact ⟨_, _, g, w', .dT upd_same (kt (q.gr g)), h, fun b hb => upd_ne fun z => hb (by rw [z]; exact List.mem_cons_self)⟩
  | mo I => exact h.elim
/-- data: what a display, a call, a store is handed -/
structure VD (X : Cx) (e : Expr) (td : TD) : Prop where
  vc : VC X e fun ρ G => td ρ fun d => G (.sh d)
theorem VC.fin_frozen {K : Fg} {F : Hp} {Ω : Om} {H : Hp} {G : D → Prop} {Q : VK} (k : Fin K F Ω H (fun c => ∃ d, c = .sh d ∧ G d) Q) : Fin K F Ω H (fun c => fz c G) Q := by
  intro c v F' Ω' H' A x r o f g
  obtain ⟨F2, d, gr, w2, r2, hk, off⟩ := freeze x.wd r o g
  refine k (.sh d) v F2 Ω' H' [] ⟨x.sub.trans gr, fun b hb => ?_, x.keep, x.here, x.omg, x.omn, w2⟩ ⟨r2, rfl⟩ ow_nil (fun _ m => nomatch m) ⟨d, rfl, hk⟩
  rw [off b fun m => hb (f b m)]
  exact x.new b hb
theorem VC.vd {te : TC} (h : VC X e te) : VD X e fun ρ G => te ρ fun c => fz c G := by
  refine ⟨⟨fun B => pe_imp (h.pe B) fun σ H Q ⟨F, Ω, ρ, G, en, g, k⟩ => ⟨F, Ω, ρ, _, en, g, VC.fin_frozen fun c v F' Ω' H' A x r o f g => ?_⟩⟩⟩
  obtain ⟨d, rfl, g⟩ := g
  exact k (.sh d) v F' Ω' H' A x r o f g
/-! names -/
def nmS (i : Nat) : TC := fun ρ G => match ρ[i]? with
  | some .un => False
  | some c => G c
  | none => False
def nmC (i : Nat) : TC := fun ρ G => match ρ[i]? with
  | some (.sh d) => G (.sh d)
  | some (.mo I) => G (.mo I)
  | _ => False
theorem se_var {i : Nat} (h : PE X e (tVar i)) : SE X e (nmS i) := by
  refine ⟨fun B => pe_imp h fun σ H Q ⟨F, Ω, ρ, G, en, g, k⟩ => ?_⟩
  obtain ⟨As, h1, h2, h3⟩ := en.own
  cases hc : ρ[i]? with
  | none => unfold nmS at g; rw [hc] at g; exact g.elim
  | some c =>
    have g' : c ≠ .un ∧ G c := by
      unfold nmS at g
      rw [hc] at g
      cases c with
      | un => exact g.elim
      | _ => exact ⟨by simp, g⟩
    obtain ⟨v, hv, r⟩ := h1 i c hc g'.1
    exact ⟨v, hv, k c v F Ω H (As i) (Ext.refl en.wd) r (fun a m => ⟨(h2 i a m).1, (h2 i a m).2.1⟩) g'.2⟩
theorem vc_var {i : Nat} (h : PE X e (tVar i)) : VC X e (nmC i) := by
  refine ⟨fun B => pe_imp h fun σ H Q ⟨F, Ω, ρ, G, en, g, k⟩ => ?_⟩
  obtain ⟨As, h1, h2, h3⟩ := en.own
  cases hc : ρ[i]? with
  | none => unfold nmC at g; rw [hc] at g; exact g.elim
  | some c =>
    unfold nmC at g
    rw [hc] at g
    cases c with
    | sh d =>
      obtain ⟨v, hv, r⟩ := h1 i _ hc (by simp)
      exact ⟨v, hv, k (.sh d) v F Ω H [] (Ext.refl en.wd) ⟨r.1, rfl⟩ ow_nil (fun _ m => nomatch m) g⟩
    | mo I =>
      obtain ⟨v, hv, a, rfl, ha, hA⟩ := h1 i _ hc (by simp)
      exact ⟨.ref a, hv, k (.mo I) (.ref a) F Ω H [] (Ext.refl en.wd) ⟨a, rfl, ha, rfl⟩ ow_nil (fun _ m => nomatch m) g⟩
    | _ => exact g.elim
end
end TL
namespace TL
open PySem PySem.Spec PyProof.Rows L2
section
variable {X : Cx} {a b e e1 e2 : Expr} {es : List Expr} {pos : Pos} {K : Fg}
/-! ### constants -/
def kC (d : D) : TC := fun _ G => G (.sh d)
theorem vc_const {e : Expr} {v : V} {d : D} (h : PE X e (tC v)) (r : ∀ F, Rep X.K F v d) : VC X e (kC d) := ⟨fun B => pe_imp h fun σ H Q ⟨F, Ω, ρ, G, en, g, k⟩ => k.sh (Ext.refl en.wd) (r F) g⟩
theorem vc_int {i j pos} : VC X (.Constant (.int i) j pos) (kC (.int i)) := vc_const pe_int fun _ => .int i
theorem vc_bl {i j pos} : VC X (.Constant (.bool i) j pos) (kC (.bool i)) := vc_const pe_bl fun _ => .bl i
theorem vc_non {j pos} : VC X (.Constant .none j pos) (kC .none) := vc_const pe_non fun _ => .non
theorem vc_str {x j pos} : VC X (.Constant (.str x) j pos) (kC (.str x)) := vc_const pe_str fun _ => .str x

/-! ### what two lent contents give -/
def OkBin (K : Fg) (r : R2) (R : C → C → CK → Prop) : Prop := ∀ F Ω H c1 c2 v1 v2 A1 A2 G Q, Wd F Ω H → RC K F Ω H c1 v1 A1 → RC K F Ω H c2 v2 A2 → R c1 c2 G → Fin K F Ω H G Q → r v1 v2 H Q
def OkUn (K : Fg) (r : V → Hp → VK → Prop) (R : C → CK → Prop) : Prop := ∀ F Ω H c1 v1 A1 G Q, Wd F Ω H → RC K F Ω H c1 v1 A1 → R c1 G → Fin K F Ω H G Q → r v1 H Q
def cBin (R : C → C → CK → Prop) (ta tb : TC) : TC := fun ρ G => ta ρ fun x => tb ρ fun y => R x y G
def cUn (R : C → CK → Prop) (ta : TC) : TC := fun ρ G => ta ρ fun x => R x G
theorem up_bin {B : Bs} {ta tb : TC} {r : R2} {R : C → C → CK → Prop} (ok : OkBin K r R) {σ : L2.St} {H : Hp} {Q : VK} (h : upC K B (cBin R ta tb) σ H Q) : tOp r (upS K B ta) (upS K B tb) σ H Q := by
  obtain ⟨F, Ω, ρ, G, en, g, k⟩ := h
  refine ⟨F, Ω, ρ, _, en, g, fun c1 v1 F1 Ω1 H1 A1 x1 r1 o1 g1 => ?_⟩
  refine ⟨F1, Ω1, ρ, _, en.ext x1, g1, fun c2 v2 F2 Ω2 H2 A2 x2 r2 o2 g2 => ?_⟩
  exact ok F2 Ω2 H2 c1 c2 v1 v2 A1 A2 G Q x2.wd (r1.ext x2 o1) r2 g2 (k.ext (x1.trans x2))
theorem up_un {B : Bs} {ta : TC} {r : V → Hp → VK → Prop} {R : C → CK → Prop} (ok : OkUn K r R) {σ : L2.St} {H : Hp} {Q : VK} (h : upC K B (cUn R ta) σ H Q) : tUn r (upS K B ta) σ H Q := by
  obtain ⟨F, Ω, ρ, G, en, g, k⟩ := h
  exact ⟨F, Ω, ρ, _, en, g, fun c1 v1 F1 Ω1 H1 A1 x1 r1 o1 g1 => ok F1 Ω1 H1 c1 v1 A1 G Q x1.wd r1 g1 (k.ext x1)⟩
theorem vc_op {op : Operator} {r : R2} {R : C → C → CK → Prop} (ho : OpR X (binaryOp op) r) (ok : OkBin X.K r R) {ta tb : TC} (ha : SE X a ta) (hb : SE X b tb) : VC X (.BinOp a op b pos) (cBin R ta tb) :=
  ⟨fun B => pe_imp (pe_op ho (ha.pe B) (hb.pe B)) fun σ H Q => up_bin ok⟩
theorem vc_un {op : UnaryOp} {r : V → Hp → VK → Prop} {R : C → CK → Prop} (ho : UnR X (unaryOp op) r) (ok : OkUn X.K r R) {ta : TC} (ha : SE X a ta) : VC X (.UnaryOp op a pos) (cUn R ta) :=
  ⟨fun B => pe_imp (pe_un ho (ha.pe B)) fun σ H Q => up_un ok⟩
theorem vc_cmp {op : CmpOp} {r : R2} {R : C → C → CK → Prop} (ho : OpR X (compareOp op) r) (ok : OkBin X.K r R) {ta tb : TC} (ha : SE X a ta) (hb : SE X b tb) (hm : behindInMarks op b = false := by rfl) : VC X (.Compare a [op] [b] pos) (cBin R ta tb) :=
  ⟨fun B => pe_imp (pe_cmpR ho (ha.pe B) (hb.pe B) hm) fun σ H Q => up_bin ok⟩
/-- truth of a content that is a bool -/
def blC (c : C) (G : Bool → Prop) : Prop := match c with
  | .sh (.bool b) => G b
  | _ => False
theorem vb_cmp {op : CmpOp} {r : R2} {R : C → C → CK → Prop} (ho : OpR X (compareOp op) r) (ok : OkBin X.K r R) {ta tb : TC} (ha : SE X a ta) (hb : SE X b tb) (hm : behindInMarks op b = false := by rfl) :
    VB X (.Compare a [op] [b] pos) (fun ρ G => cBin R ta tb ρ fun c => blC c G) := by
  refine ⟨fun B => pt_imp (pt_cmpR ho (ha.pe B) (hb.pe B) hm) fun σ H Q ⟨F, Ω, ρ, G, en, g, k⟩ => up_bin ok ⟨F, Ω, ρ, _, en, g, fun c v F' Ω' H' A x r o f gc => ?_⟩⟩
  cases c with
  | sh d =>
    cases d with
    | bool b =>
      obtain ⟨r, _⟩ := r
      cases r
      exact ⟨b, rfl, k b F' Ω' H' x gc⟩
    | _ => exact gc.elim
  | _ => exact gc.elim
/-- .. by another rule for the comparison -/
theorem pc_imp {op : CmpOp} {t t' : TE} (h : PC X op a b t) (f : ∀ σ H Q, t' σ H Q → t σ H Q) : PC X op a b t' := ⟨fun pins s σ H Q I w => h.run pins s σ H Q I (f σ H Q w)⟩
theorem vb_pc {op : CmpOp} {te : TC} (h : ∀ B, PC X op a b (upC X.K B te)) (hm : behindInMarks op b = false := by rfl) : VB X (.Compare a [op] [b] pos) (fun ρ G => te ρ fun c => blC c G) := by
  refine ⟨fun B => pt_imp (pt_cmp (h B) hm) fun σ H Q ⟨F, Ω, ρ, G, en, g, k⟩ => ⟨F, Ω, ρ, _, en, g, fun c v F' Ω' H' A x r o f gc => ?_⟩⟩
  cases c with
  | sh d =>
    cases d with
    | bool b =>
      obtain ⟨r, _⟩ := r
      cases r
      exact ⟨b, rfl, k b F' Ω' H' x gc⟩
    | _ => exact gc.elim
  | _ => exact gc.elim
theorem vc_pc {op : CmpOp} {te : TC} (h : ∀ B, PC X op a b (upC X.K B te)) (hm : behindInMarks op b = false := by rfl) : VC X (.Compare a [op] [b] pos) te := ⟨fun B => pe_cmp (h B) hm⟩

/-! ### ints -/
def cI2 (f : Int → Int → CK → Prop) : C → C → CK → Prop
  | .sh (.int i), .sh (.int j), G => f i j G
  | _, _, _ => False
theorem ok_I2 {P : Int → Int → Prop} {g : Int → Int → V} {f : Int → Int → CK → Prop} {d : Int → Int → D} (hr : ∀ F i j, Rep K F (g i j) (d i j)) (hf : ∀ i j G, f i j G → P i j ∧ G (.sh (d i j))) : OkBin K (rI P g) (cI2 f) := by
  intro F Ω H c1 c2 v1 v2 A1 A2 G Q w r1 r2 h k
  unfold cI2 at h
  split at h
  · rename_i i j
    obtain ⟨r1, _⟩ := r1
    obtain ⟨r2, _⟩ := r2
    cases r1
    cases r2
    obtain ⟨p, q⟩ := hf i j _ h
    exact ⟨i, j, rfl, rfl, p, k.sh (Ext.refl w) (hr F i j) q⟩
  · exact h.elim
theorem ok_I20 {g : Int → Int → V} {f : Int → Int → CK → Prop} {d : Int → Int → D} (hr : ∀ F i j, Rep K F (g i j) (d i j)) (hf : ∀ i j G, f i j G → G (.sh (d i j))) : OkBin K (rI0 g) (cI2 f) := by
  intro F Ω H c1 c2 v1 v2 A1 A2 G Q w r1 r2 h k
  unfold cI2 at h
  split at h
  · rename_i i j
    obtain ⟨r1, _⟩ := r1
    obtain ⟨r2, _⟩ := r2
    cases r1
    cases r2
    exact ⟨i, j, rfl, rfl, k.sh (Ext.refl w) (hr F i j) (hf i j _ h)⟩
  · exact h.elim
abbrev cSub := cI2 fun i j G => G (.sh (.int (i - j)))
abbrev cMul := cI2 fun i j G => CMul i j ∧ G (.sh (.int (i * j)))
abbrev cDiv := cI2 fun i j G => CDivN i j ∧ G (.sh (.int (i.fdiv j)))
abbrev cMod := cI2 fun i j G => j ≠ 0 ∧ G (.sh (.int (i.fmod j)))
abbrev cPow := cI2 fun i j G => CPow i j ∧ G (.sh (.int (i ^ j.toNat)))
abbrev cLt := cI2 fun i j G => G (.sh (.bool (decide (i < j))))
abbrev cLe := cI2 fun i j G => G (.sh (.bool (decide (i ≤ j))))
abbrev cGt := cI2 fun i j G => G (.sh (.bool (decide (j < i))))
abbrev cGe := cI2 fun i j G => G (.sh (.bool (decide (j ≤ i))))
theorem ok_sub : OkBin K (rI0 fun i j => .int (i - j)) cSub := ok_I20 (d := fun i j => .int (i - j)) (fun _ _ _ => .int _) fun _ _ _ h => h
theorem ok_mul : OkBin K (rI CMul fun i j => .int (i * j)) cMul := ok_I2 (d := fun i j => .int (i * j)) (fun _ _ _ => .int _) fun _ _ _ h => h
theorem ok_div : OkBin K (rI CDivN fun i j => .int (i.fdiv j)) cDiv := ok_I2 (d := fun i j => .int (i.fdiv j)) (fun _ _ _ => .int _) fun _ _ _ h => h
theorem ok_mod : OkBin K (rI (fun _ j => j ≠ 0) fun i j => .int (i.fmod j)) cMod := ok_I2 (d := fun i j => .int (i.fmod j)) (fun _ _ _ => .int _) fun _ _ _ h => h
theorem ok_pow : OkBin K (rI CPow fun i j => .int (i ^ j.toNat)) cPow := ok_I2 (d := fun i j => .int (i ^ j.toNat)) (fun _ _ _ => .int _) fun _ _ _ h => h
theorem ok_lt : OkBin K (rI0 fun i j => .bl (decide (i < j))) cLt := ok_I20 (d := fun i j => .bool (decide (i < j))) (fun _ _ _ => .bl _) fun _ _ _ h => h
theorem ok_le : OkBin K (rI0 fun i j => .bl (decide (i ≤ j))) cLe := ok_I20 (d := fun i j => .bool (decide (i ≤ j))) (fun _ _ _ => .bl _) fun _ _ _ h => h
theorem ok_gt : OkBin K (rI0 fun i j => .bl (decide (j < i))) cGt := ok_I20 (d := fun i j => .bool (decide (j < i))) (fun _ _ _ => .bl _) fun _ _ _ h => h
theorem ok_ge : OkBin K (rI0 fun i j => .bl (decide (j ≤ i))) cGe := ok_I20 (d := fun i j => .bool (decide (j ≤ i))) (fun _ _ _ => .bl _) fun _ _ _ h => h
theorem vc_sub {ta tb : TC} (ha : SE X a ta) (hb : SE X b tb) : VC X (.BinOp a .Sub b pos) (cBin cSub ta tb) := vc_op op_sub ok_sub ha hb
theorem vc_mul {ta tb : TC} (ha : SE X a ta) (hb : SE X b tb) : VC X (.BinOp a .Mult b pos) (cBin cMul ta tb) := vc_op op_mul ok_mul ha hb
theorem vc_div {ta tb : TC} (ha : SE X a ta) (hb : SE X b tb) : VC X (.BinOp a .FloorDiv b pos) (cBin cDiv ta tb) := vc_op op_fdivN ok_div ha hb
theorem vc_mod {ta tb : TC} (ha : SE X a ta) (hb : SE X b tb) : VC X (.BinOp a .Mod b pos) (cBin cMod ta tb) := vc_op op_modN ok_mod ha hb
theorem vc_pow {ta tb : TC} (ha : SE X a ta) (hb : SE X b tb) : VC X (.BinOp a .Pow b pos) (cBin cPow ta tb) := vc_op op_pow ok_pow ha hb
def cNeg : C → CK → Prop
  | .sh (.int i), G => G (.sh (.int (-i)))
  | _, _ => False
theorem vc_neg {ta : TC} (ha : SE X a ta) : VC X (.UnaryOp .USub a pos) (cUn cNeg ta) := vc_un un_neg (fun F Ω H c1 v1 A1 G Q w r1 h k => by
  unfold cNeg at h
  split at h
  · rename_i i
    obtain ⟨r1, _⟩ := r1
    cases r1
    exact ⟨i, rfl, k.sh (Ext.refl w) (.int _) h⟩
  · exact h.elim) ha
/-! ### plus -/
/-- a readable list of frozen items -/
def lsC : C → Option (List D)
  | .sh (.list ds) => some ds
  | .ol ds => some ds
  | _ => none
theorem lsC_get {F H : Hp} {Ω : Om} {c : C} {v : V} {A : List Addr} {ds : List D} (w : Wd F Ω H) (r : RC K F Ω H c v A) (h : lsC c = some ds) : ∃ a vs, v = .ref a ∧ H a = some (.lst vs) ∧ Reps K F vs ds := by
  cases c with
  | sh d =>
    cases d with
    | list es =>
      cases h
      obtain ⟨r, _⟩ := r
      cases r with
      | lst e q => exact ⟨_, _, rfl, w.sub.lst e, q⟩
    | _ => cases h
  | ol es =>
    cases h
    obtain ⟨a, vs, rfl, _, e, q⟩ := r
    exact ⟨a, vs, rfl, e, q⟩
  | _ => cases h
theorem tup_get {F H : Hp} {Ω : Om} {v : V} {A : List Addr} {ds : List D} (w : Wd F Ω H) (r : RC K F Ω H (.sh (.tuple ds)) v A) : ∃ a vs, v = .ref a ∧ SqT K F a vs ∧ SqT K H a vs ∧ Reps K F vs ds := by
  obtain ⟨r, _⟩ := r
  cases r with
  | tup e q => exact ⟨_, _, rfl, e, w.sub.sqT e, q⟩
def cAdd (x y : C) (G : CK) : Prop := match x, y with
  | .sh (.int i), .sh (.int j) => G (.sh (.int (i + j)))
  | .sh (.str i), .sh (.str j) => i.length + j.length ≤ sizeLine ∧ G (.sh (.str (i ++ j)))
  | .sh (.tuple xs), .sh (.tuple ys) => xs.length + ys.length ≤ sizeLine ∧ G (.sh (.tuple (xs ++ ys)))
  | .sh (.list xs), .sh (.list ys) => xs.length + ys.length ≤ sizeLine ∧ G (.ol (xs ++ ys))
  | .sh (.list xs), .ol ys => xs.length + ys.length ≤ sizeLine ∧ G (.ol (xs ++ ys))
  | .ol xs, .sh (.list ys) => xs.length + ys.length ≤ sizeLine ∧ G (.ol (xs ++ ys))
  | .ol xs, .ol ys => xs.length + ys.length ≤ sizeLine ∧ G (.ol (xs ++ ys))
  | _, _ => False
abbrev rAddA (K : Fg) : R2 := fun x y H Q => (rI0 (fun i j => .int (i + j)) x y H Q ∨ (fun x y H Q => ∃ i j, x = .str i ∧ y = .str j ∧ i.length + j.length ≤ sizeLine ∧ Q (.str (i ++ j)) H : R2) x y H Q) ∨ (rCatA K x y H Q ∨ rCat x y H Q)
theorem op_addA : OpR X (binaryOp .Add) (rAddA X.K) := OpR.or (OpR.or op_add op_add_str) (OpR.or op_catA op_cat)
theorem cAdd_ls {x y : C} {xs ys : List D} {G : CK} (hx : lsC x = some xs) (hy : lsC y = some ys) (h : cAdd x y G) : xs.length + ys.length ≤ sizeLine ∧ G (.ol (xs ++ ys)) := by
  cases x with
  | sh d =>
    cases d with
    | list es =>
      cases hx
      cases y with
      | sh d' =>
        cases d' with
        | list es' => cases hy; exact h
        | _ => cases hy
      | ol es' => cases hy; exact h
      | _ => cases hy
    | _ => cases hx
  | ol es =>
    cases hx
    cases y with
    | sh d' =>
      cases d' with
      | list es' => cases hy; exact h
      | _ => cases hy
    | ol es' => cases hy; exact h
    | _ => cases hy
  | _ => cases hx
theorem ok_add : OkBin K (rAddA K) cAdd := by
  intro F Ω H c1 c2 v1 v2 A1 A2 G Q w r1 r2 h k
  have lists : ∀ {xs ys : List D}, lsC c1 = some xs → lsC c2 = some ys → rAddA K v1 v2 H Q := by
    intro xs ys h1 h2
    obtain ⟨a, vs, rfl, ea, qa⟩ := lsC_get w r1 h1
    obtain ⟨b, us, rfl, eb, qb⟩ := lsC_get w r2 h2
    obtain ⟨hz, g⟩ := cAdd_ls h1 h2 h
    exact .inr (.inr ⟨a, b, vs, us, rfl, rfl, ea, eb, by rw [qa.length, qb.length]; exact hz, fun p n => k.ol w n (qa.append qb) g⟩)
  cases c1 with
  | sh d =>
    cases c2 with
    | sh d' =>
      cases d with
      | int i =>
        cases d' with
        | int j =>
          obtain ⟨r1, _⟩ := r1
          obtain ⟨r2, _⟩ := r2
          cases r1
          cases r2
          exact .inl (.inl ⟨i, j, rfl, rfl, k.sh (Ext.refl w) (.int _) h⟩)
        | _ => exact False.elim h
      | str i =>
        cases d' with
        | str j =>
          obtain ⟨r1, _⟩ := r1
          obtain ⟨r2, _⟩ := r2
          cases r1
          cases r2
          exact .inl (.inr ⟨i, j, rfl, rfl, h.1, k.sh (Ext.refl w) (.str _) h.2⟩)
        | _ => exact False.elim h
      | tuple xs =>
        cases d' with
        | tuple ys =>
          obtain ⟨a, vs, rfl, fa, ea, qa⟩ := tup_get w r1
          obtain ⟨b, us, rfl, fb, eb, qb⟩ := tup_get w r2
          have h' : xs.length + ys.length ≤ sizeLine ∧ G (.sh (.tuple (xs ++ ys))) := h
          refine .inr (.inl ⟨a, b, vs, us, rfl, rfl, ea, eb, by rw [qa.length, qb.length]; exact h'.1, fun z => ?_, fun _ z => ?_, fun _ _ p n => ?_⟩)
          · subst z
            cases qa
            exact k.sh (Ext.refl w) (.tup fb qb) h'.2
          · subst z
            cases qb
            rw [List.append_nil] at h'
            exact k.sh (Ext.refl w) (.tup fa qa) h'.2
          · exact k.tup w n (qa.append qb) h'.2
        | _ => exact False.elim h
      | list xs =>
        cases d' with
        | list ys => exact lists rfl rfl
        | _ => exact False.elim h
      | _ => exact False.elim h
    | ol ys =>
      cases d with
      | list xs => exact lists rfl rfl
      | _ => exact False.elim h
    | _ => cases d <;> exact False.elim h
  | ol xs =>
    cases c2 with
    | sh d' =>
      cases d' with
      | list ys => exact lists rfl rfl
      | _ => exact False.elim h
    | ol ys => exact lists rfl rfl
    | _ => exact False.elim h
  | _ => exact False.elim h
theorem vc_add {ta tb : TC} (ha : SE X a ta) (hb : SE X b tb) : VC X (.BinOp a .Add b pos) (cBin cAdd ta tb) := vc_op op_addA ok_add ha hb
end
end TL
namespace TL
open PySem PySem.Spec PyProof.Rows L2
/-! ### data as the layer below reads it -/
mutual
theorem Rep.dp {K : Fg} {F H : Hp} (s : Sub F H) : ∀ {v : V} {d : D}, Rep K F v d → d.canLay0 = true → Dp K H v d
  | _, _, .non, _ => .non
  | _, _, .bl b, _ => .bl b
  | _, _, .int i, _ => .int i
  | _, _, .str x, _ => .str x
  | _, _, .lst (ds := ds) e r, h => .lst (.inl (.inl (s.lst e))) (Reps.dp s r (by simpa only [PyData.canLay0] using h))
  | _, _, .tup (ds := ds) e r, h => .tup (s.sqT e) (Reps.dp s r (by simpa only [PyData.canLay0] using h))
  | _, _, .dK _ _, h => by simp only [PyData.canLay0] at h; cases h
  | _, _, .dT _ _, h => by simp only [PyData.canLay0] at h; cases h
theorem Reps.dp {K : Fg} {F H : Hp} (s : Sub F H) : ∀ {vs : List V} {ds : List D}, Reps K F vs ds → PyData.canLayAll0 ds = true → DpAll K H vs ds
  | _, _, .nil, _ => .nil
  | _, _, .cons h t, q => by
    simp only [PyData.canLayAll0, Bool.and_eq_true] at q
    exact .cons (Rep.dp s h q.1) (Reps.dp s t q.2)
end
/-- lent data -/
def dC : C → Option D
  | .sh d => some d
  | .ol ds => some (.list ds)
  | _ => none
theorem dC_dp {K : Fg} {F H : Hp} {Ω : Om} {c : C} {v : V} {A : List Addr} {d : D} (w : Wd F Ω H) (r : RC K F Ω H c v A) (h : dC c = some d) (hs : d.canLay0 = true) : Dp K H v d := by
  cases c with
  | sh e => cases h; exact r.1.dp w.sub hs
  | ol es =>
    cases h
    obtain ⟨a, vs, rfl, _, e, q⟩ := r
    exact .lst (.inl (.inl e)) (q.dp w.sub (by simpa only [PyData.canLay0] using hs))
  | _ => cases h
section
variable {X : Cx} {a b e e1 e2 : Expr} {es : List Expr} {pos : Pos} {K : Fg}
/-! ### equality -/
def cEqB (f : Bool → Bool) (x y : C) (G : CK) : Prop := match x, y with
  | .sh (.int i), .sh (.int j) => G (.sh (.bool (f (decide (i = j)))))
  | .sh (.str i), .sh (.str j) => G (.sh (.bool (f (decide (i = j)))))
  | x, y => ∃ d e, dC x = some d ∧ dC y = some e ∧ SeqAt.shaped d = true ∧ SeqAt.shaped e = true ∧ G (.sh (.bool (f (PyData.eqv d e))))
abbrev cEq := cEqB id
abbrev cNe := cEqB not
abbrev rEqA (K : Fg) : R2 := fun x y H Q => rEq x y H Q ∨ rEqD K x y H Q
abbrev rNeA (K : Fg) : R2 := fun x y H Q => rNe x y H Q ∨ rNeD K x y H Q
theorem op_eqA (hu : X.A.units + 64 < cLine) : OpR X (compareOp .Eq) (rEqA X.K) := OpR.or op_eq (op_eqD hu)
theorem op_neA (hu : X.A.units + 64 < cLine) : OpR X (compareOp .NotEq) (rNeA X.K) := OpR.or op_ne (op_neD hu)
theorem cEqB_cases {f : Bool → Bool} {x y : C} {G : CK} (h : cEqB f x y G) : (∃ i j, x = .sh (.int i) ∧ y = .sh (.int j) ∧ G (.sh (.bool (f (decide (i = j)))))) ∨ (∃ i j, x = .sh (.str i) ∧ y = .sh (.str j) ∧ G (.sh (.bool (f (decide (i = j)))))) ∨
    ∃ d e, dC x = some d ∧ dC y = some e ∧ SeqAt.shaped d = true ∧ SeqAt.shaped e = true ∧ G (.sh (.bool (f (PyData.eqv d e)))) := by
  unfold cEqB at h
  split at h
  · exact .inl ⟨_, _, rfl, rfl, h⟩
  · exact .inr (.inl ⟨_, _, rfl, rfl, h⟩)
  · exact .inr (.inr h)
theorem ok_eq : OkBin K (rEqA K) cEq := by
  intro F Ω H c1 c2 v1 v2 A1 A2 G Q w r1 r2 h k
  rcases cEqB_cases h with ⟨i, j, rfl, rfl, g⟩ | ⟨i, j, rfl, rfl, g⟩ | ⟨d, e, hd, he, sd, se, g⟩
  · obtain ⟨r1, _⟩ := r1
    obtain ⟨r2, _⟩ := r2
    cases r1
    cases r2
    refine .inl ⟨rfl, k.sh (Ext.refl w) (.bl _) ?_⟩
    rw [show decide (V.int i = V.int j) = decide (i = j) by rw [dec_int, Bool.beq_eq_decide_eq]]
    exact g
  · obtain ⟨r1, _⟩ := r1
    obtain ⟨r2, _⟩ := r2
    cases r1
    cases r2
    refine .inl ⟨rfl, k.sh (Ext.refl w) (.bl _) ?_⟩
    rw [show decide (V.str i = V.str j) = decide (i = j) by by_cases z : i = j <;> simp [z]]
    exact g
  · exact .inr ⟨d, e, dC_dp w r1 hd (SeqAt.canLay_of_shaped sd), dC_dp w r2 he (SeqAt.canLay_of_shaped se), sd, se, k.sh (Ext.refl w) (.bl _) g⟩
theorem ok_ne : OkBin K (rNeA K) cNe := by
  intro F Ω H c1 c2 v1 v2 A1 A2 G Q w r1 r2 h k
  rcases cEqB_cases h with ⟨i, j, rfl, rfl, g⟩ | ⟨i, j, rfl, rfl, g⟩ | ⟨d, e, hd, he, sd, se, g⟩
  · obtain ⟨r1, _⟩ := r1
    obtain ⟨r2, _⟩ := r2
    cases r1
    cases r2
    refine .inl ⟨rfl, k.sh (Ext.refl w) (.bl _) ?_⟩
    rw [show decide (V.int i = V.int j) = decide (i = j) by rw [dec_int, Bool.beq_eq_decide_eq]]
    exact g
  · obtain ⟨r1, _⟩ := r1
    obtain ⟨r2, _⟩ := r2
    cases r1
    cases r2
    refine .inl ⟨rfl, k.sh (Ext.refl w) (.bl _) ?_⟩
    rw [show decide (V.str i = V.str j) = decide (i = j) by by_cases z : i = j <;> simp [z]]
    exact g
  · exact .inr ⟨d, e, dC_dp w r1 hd (SeqAt.canLay_of_shaped sd), dC_dp w r2 he (SeqAt.canLay_of_shaped se), sd, se, k.sh (Ext.refl w) (.bl _) g⟩
/-! ### in a list -/
def cInB (f : Bool → Bool) (x y : C) (G : CK) : Prop := ∃ d ds, dC x = some d ∧ lsC y = some ds ∧ SeqAt.shaped d = true ∧ SeqAt.shaped (.list ds) = true ∧ G (.sh (.bool (f (ds.any fun z => PyData.eqv z d))))
theorem lsC_dC {c : C} {ds : List D} (h : lsC c = some ds) : dC c = some (.list ds) := by
  cases c with
  | sh d =>
    cases d with
    | list es => cases h; rfl
    | _ => cases h
  | ol es => cases h; rfl
  | _ => cases h
theorem ok_in : OkBin K (rInD K) (cInB id) := by
  intro F Ω H c1 c2 v1 v2 A1 A2 G Q w r1 r2 ⟨d, ds, hd, he, sd, se, g⟩ k
  exact ⟨d, ds, dC_dp w r1 hd (SeqAt.canLay_of_shaped sd), dC_dp w r2 (lsC_dC he) (SeqAt.canLay_of_shaped se), sd, se, k.sh (Ext.refl w) (.bl _) g⟩
theorem ok_notIn : OkBin K (rNotInD K) (cInB not) := by
  intro F Ω H c1 c2 v1 v2 A1 A2 G Q w r1 r2 ⟨d, ds, hd, he, sd, se, g⟩ k
  exact ⟨d, ds, dC_dp w r1 hd (SeqAt.canLay_of_shaped sd), dC_dp w r2 (lsC_dC he) (SeqAt.canLay_of_shaped se), sd, se, k.sh (Ext.refl w) (.bl _) g⟩
/-! ### is None -/
def isNo : C → Bool
  | .sh .none => true
  | _ => false
def cIsB (f : Bool → Bool) (x y : C) (G : CK) : Prop := match y with
  | .sh .none => G (.sh (.bool (f (isNo x))))
  | _ => False
theorem isNo_v {F H : Hp} {Ω : Om} {c : C} {v : V} {A : List Addr} (r : RC K F Ω H c v A) (hu : c ≠ .un) : decide (v = .non) = isNo c := by
  cases c with
  | un => exact absurd rfl hu
  | sh d =>
    obtain ⟨r, _⟩ := r
    cases r <;> rfl
  | ol ds => obtain ⟨a, vs, rfl, _⟩ := r; rfl
  | oll ds => obtain ⟨a, vs, as, rfl, _⟩ := r; rfl
  | od ds => obtain ⟨a, vs, rfl, _⟩ := r; rfl
  | odT ds => obtain ⟨a, vs, rfl, _⟩ := r; rfl
  | mo I => obtain ⟨a, rfl, _⟩ := r; rfl
def cIs (f : Bool → Bool) (x y : C) (G : CK) : Prop := x ≠ .un ∧ cIsB f x y G
theorem ok_is : OkBin K (fun x y H Q => y = .non ∧ Q (.bl (decide (x = .non))) H) (cIs id) := by
  intro F Ω H c1 c2 v1 v2 A1 A2 G Q w r1 r2 ⟨hu, h⟩ k
  unfold cIsB at h
  split at h
  · obtain ⟨r2, _⟩ := r2
    cases r2
    exact ⟨rfl, k.sh (Ext.refl w) (.bl _) (by rw [isNo_v r1 hu]; exact h)⟩
  · exact h.elim
theorem ok_isnot : OkBin K (fun x y H Q => y = .non ∧ Q (.bl (!decide (x = .non))) H) (cIs not) := by
  intro F Ω H c1 c2 v1 v2 A1 A2 G Q w r1 r2 ⟨hu, h⟩ k
  unfold cIsB at h
  split at h
  · obtain ⟨r2, _⟩ := r2
    cases r2
    exact ⟨rfl, k.sh (Ext.refl w) (.bl _) (by rw [isNo_v r1 hu]; exact h)⟩
  · exact h.elim
/-! ### items -/
/-- xs[i] of data -/
def atD {α : Type} (xs : List α) (i : Int) (G : α → Prop) : Prop := ∃ x, atI xs i = some x ∧ G x
def cIx (x y : C) (G : CK) : Prop := match x, y with
  | .sh (.list ds), .sh (.int i) => atD ds i fun d => G (.sh d)
  | .ol ds, .sh (.int i) => atD ds i fun d => G (.sh d)
  | .sh (.tuple ds), .sh (.int i) => atD ds i fun d => G (.sh d)
  | .sh (.str z), .sh (.int i) => z.length ≤ sizeLine ∧ atD z.cps.toList i fun c => G (.sh (.str ⟨#[c]⟩))
  | _, _ => False
theorem atI_reps {F : Hp} {vs : List V} {ds : List D} {i : Int} {d : D} (r : Reps K F vs ds) (h : atI ds i = some d) : ∃ v, atI vs i = some v ∧ Rep K F v d := by
  unfold atI at h ⊢
  rw [r.length]
  cases e : ixN ds.length i with
  | none => rw [e] at h; cases h
  | some j =>
    rw [e] at h
    exact r.get h
theorem ok_ix : OkBin K (rIx K) cIx := by
  intro F Ω H c1 c2 v1 v2 A1 A2 G Q w r1 r2 h k
  unfold cIx at h
  split at h
  · rename_i ds i
    obtain ⟨d, hd, g⟩ := h
    obtain ⟨a, vs, rfl, ea, qa⟩ := lsC_get (ds := ds) w r1 rfl
    obtain ⟨r2, _⟩ := r2
    cases r2
    obtain ⟨v, hv, rv⟩ := atI_reps qa hd
    exact .inl ⟨a, vs, i, v, rfl, rfl, .inl (.inl ea), hv, k.sh (Ext.refl w) rv g⟩
  · rename_i ds i
    obtain ⟨d, hd, g⟩ := h
    obtain ⟨a, vs, rfl, ea, qa⟩ := lsC_get (ds := ds) w r1 rfl
    obtain ⟨r2, _⟩ := r2
    cases r2
    obtain ⟨v, hv, rv⟩ := atI_reps qa hd
    exact .inl ⟨a, vs, i, v, rfl, rfl, .inl (.inl ea), hv, k.sh (Ext.refl w) rv g⟩
  · rename_i ds i
    obtain ⟨d, hd, g⟩ := h
    obtain ⟨a, vs, rfl, fa, ea, qa⟩ := tup_get w r1
    obtain ⟨r2, _⟩ := r2
    cases r2
    obtain ⟨v, hv, rv⟩ := atI_reps qa hd
    exact .inr (.inl ⟨a, vs, i, v, rfl, rfl, ea, hv, k.sh (Ext.refl w) rv g⟩)
  · rename_i z i
    obtain ⟨hz, c, hc, g⟩ := h
    obtain ⟨r1, _⟩ := r1
    obtain ⟨r2, _⟩ := r2
    cases r1
    cases r2
    exact .inr (.inr ⟨z, i, c, rfl, rfl, hz, hc, k.sh (Ext.refl w) (.str _) g⟩)
  · exact h.elim
theorem vc_ix {ta tb : TC} (ha : SE X a ta) (hb : SE X b tb) (hs : PlainIx b := by exact fun _ _ => rfl) : VC X (.Subscript a b pos) (cBin cIx ta tb) :=
  ⟨fun B => pe_imp (pe_ix ix_seq (ha.pe B) (hb.pe B) hs) fun σ H Q => up_bin ok_ix⟩
/-! ### slices -/
abbrev TOp := List C → (Option Int → Prop) → Prop
def upO (K : Fg) (B : Bs) (t : TOp) : L2.TO := fun σ H Q => ∃ F Ω ρ G, En K B F Ω H σ ρ ∧ t ρ G ∧ ∀ o F' Ω' H', Ext F Ω H F' Ω' H' → G o → Q o H'
structure VO (X : Cx) (e : Option Expr) (t : TOp) : Prop where
  po : ∀ B, PO X e (upO X.K B t)
theorem po_imp {e : Option Expr} {t t' : L2.TO} (h : PO X e t) (f : ∀ σ H Q, t' σ H Q → t σ H Q) : PO X e t' := ⟨fun pins s σ H Q I w => h.run pins s σ H Q I (f σ H Q w)⟩
theorem vo_none : VO X none (fun _ G => G none) := ⟨fun B => po_imp po_none fun σ H Q ⟨F, Ω, ρ, G, en, g, k⟩ => k none F Ω H (Ext.refl en.wd) g⟩
def inC (c : C) (G : Int → Prop) : Prop := match c with
  | .sh (.int i) => G i
  | _ => False
theorem vo_some {ta : TC} (ha : SE X a ta) : VO X (some a) (fun ρ G => ta ρ fun c => inC c fun i => G (some i)) := by
  refine ⟨fun B => po_imp (po_some (ha.pe B)) fun σ H Q ⟨F, Ω, ρ, G, en, g, k⟩ => ⟨F, Ω, ρ, _, en, g, fun c v F' Ω' H' A x r o gc => ?_⟩⟩
  unfold inC at gc
  split at gc
  · rename_i i
    obtain ⟨r, _⟩ := r
    cases r
    exact ⟨i, rfl, k (some i) F' Ω' H' x gc⟩
  · exact gc.elim
def slD {α : Type} (xs : List α) (lo hi : Option Int) : List α := (xs.drop (HT.sIx xs.length 0 lo)).take (HT.sIx xs.length xs.length hi - HT.sIx xs.length 0 lo)
theorem cutV_reps {F : Hp} {vs : List V} {ds : List D} {lo hi : Option Int} (r : Reps K F vs ds) : Reps K F (cutV vs lo hi) (slD ds lo hi) := by
  unfold cutV slD
  rw [r.length]
  exact (r.drop _).take _
def cSl (x : C) (lo hi : Option Int) (G : CK) : Prop := match x with
  | .sh (.list ds) => G (.ol (slD ds lo hi))
  | .ol ds => G (.ol (slD ds lo hi))
  | .sh (.tuple ds) => G (.sh (.tuple (slD ds lo hi)))
  | .sh (.str z) => z.length ≤ sizeLine ∧ G (.sh (.str (cutS z lo hi)))
  | _ => False
abbrev rSlA3 (K : Fg) : V → Option Int → Option Int → Hp → VK → Prop := fun x lo hi H Q => (rSlL K x lo hi H Q ∨ rSlA K x lo hi H Q) ∨ rSlS x lo hi H Q
theorem sl_A3 : SlR X (rSlA3 X.K) := SlR.or (SlR.or sl_list sl_tupA) sl_str
theorem vc_sl {lo hi : Option Expr} {p2 : Pos} {ta : TC} {tl th : TOp} (ha : SE X a ta) (hl : VO X lo tl) (hh : VO X hi th) :
    VC X (.Subscript a (.Slice lo hi none p2) pos) (fun ρ G => ta ρ fun x => tl ρ fun l => th ρ fun h => cSl x l h G) := by
  refine ⟨fun B => pe_imp (pe_slice sl_A3 (ha.pe B) (hl.po B) (hh.po B)) fun σ H Q ⟨F, Ω, ρ, G, en, g, k⟩ => ⟨F, Ω, ρ, _, en, g, fun c v F1 Ω1 H1 A x1 r1 o1 g1 => ?_⟩⟩
  refine ⟨F1, Ω1, ρ, _, en.ext x1, g1, fun l F2 Ω2 H2 x2 g2 => ⟨F2, Ω2, ρ, _, (en.ext x1).ext x2, g2, fun h F3 Ω3 H3 x3 g3 => ?_⟩⟩
  have r3 := (r1.ext x2 o1).ext x3 (o1.ext x2 r1.there)
  have k3 := k.ext (x1.trans (x2.trans x3))
  have w := x3.wd
  unfold cSl at g3
  split at g3
  · rename_i ds
    obtain ⟨a, vs, rfl, ea, qa⟩ := lsC_get (ds := ds) w r3 rfl
    exact .inl (.inl ⟨a, vs, rfl, .inl (.inl ea), fun p n => k3.ol w n (cutV_reps qa) g3⟩)
  · rename_i ds
    obtain ⟨a, vs, rfl, ea, qa⟩ := lsC_get (ds := ds) w r3 rfl
    exact .inl (.inl ⟨a, vs, rfl, .inl (.inl ea), fun p n => k3.ol w n (cutV_reps qa) g3⟩)
  · rename_i ds
    obtain ⟨a, vs, rfl, fa, ea, qa⟩ := tup_get w r3
    refine .inl (.inr ⟨a, vs, rfl, ea, fun z => ?_, fun z p n => k3.tup w n (cutV_reps qa) g3⟩)
    have e : slD ds l h = ds := by
      unfold slD
      rw [← qa.length, z.1, z.2, List.drop_zero, Nat.sub_zero, List.take_of_length_le (by rw [qa.length]; exact Nat.le_refl _)]
    rw [e] at g3
    exact k3.sh (Ext.refl w) (.tup fa qa) g3
  · rename_i z
    obtain ⟨hz, g3⟩ := g3
    obtain ⟨r3, _⟩ := r3
    cases r3
    exact .inr ⟨z, rfl, hz, k3.sh (Ext.refl w) (.str _) g3⟩
  · exact g3.elim
end
end TL
namespace TL
open PySem PySem.Spec PyProof.Rows L2
section
variable {X : Cx} {a b e e1 e2 : Expr} {es : List Expr} {pos : Pos} {K : Fg}
/-! ### lists of data, of arguments -/
abbrev TDs := List C → (List D → Prop) → Prop
def upL (K : Fg) (B : Bs) (tl : TDs) : TA := fun σ H Q => ∃ F Ω ρ G, En K B F Ω H σ ρ ∧ tl ρ G ∧ ∀ ds vs F' Ω' H', Ext F Ω H F' Ω' H' → Reps K F' vs ds → G ds → Q vs H'
structure VL (X : Cx) (es : List Expr) (tl : TDs) : Prop where
  pa : ∀ B, PA X es (upL X.K B tl)
theorem vl_nil : VL X [] (fun _ G => G []) := ⟨fun B => pa_imp pa_nil fun σ H Q ⟨F, Ω, ρ, G, en, g, k⟩ => k [] [] F Ω H (Ext.refl en.wd) .nil g⟩
theorem vl_cons {te : TC} {tl : TDs} (h : VC X e te) (t : VL X es tl) (hs : starEach (e :: es) X.env = (false, eval e X.env) :: starEach es X.env := by rfl) : VL X (e :: es) (fun ρ G => te ρ fun c => fz c fun d => tl ρ fun ds => G (d :: ds)) := by
  refine ⟨fun B => pa_imp (pa_cons (h.vd.vc.pe B) (t.pa B) hs) fun σ H Q ⟨F, Ω, ρ, G, en, g, k⟩ => ?_⟩
  refine ⟨F, Ω, ρ, fun c => ∃ d, c = .sh d ∧ tl ρ fun ds => G (d :: ds), en, ?_, fun c v F1 Ω1 H1 A1 x1 r1 o1 f1 ⟨d, hc, g1⟩ => ?_⟩
  · have m : (fun c => fz c fun d => ∃ d', C.sh d = .sh d' ∧ tl ρ fun ds => G (d' :: ds)) = fun c => fz c fun d => tl ρ fun ds => G (d :: ds) := by
      funext c
      cases c <;> simp [fz]
    show te ρ fun c => fz c fun d => ∃ d', C.sh d = .sh d' ∧ tl ρ fun ds => G (d' :: ds)
    rw [m]
    exact g
  · subst hc
    refine ⟨F1, Ω1, ρ, _, en.ext x1, g1, fun ds vs F2 Ω2 H2 x2 r2 g2 => k (d :: ds) (v :: vs) F2 Ω2 H2 (x1.trans x2) (.cons (r1.1.gr x2.sub) r2) g2⟩
def fzM (c : C) (G : CK) : Prop := match c with
  | .mo I => G (.mo I)
  | c => fz c fun d => G (.sh d)
def RCs (K : Fg) (F : Hp) (Ω : Om) (H : Hp) : List C → List V → Prop
  | [], [] => True
  | c :: cs, v :: vs => c ≠ .un ∧ RC K F Ω H c v [] ∧ RCs K F Ω H cs vs
  | _, _ => False
theorem RCs.go {F F' : Hp} {Ω Ω' : Om} {H H' : Hp} (g : Gr F F') (ho : ∀ a I, Ω a = some I → Ω' a = some I) : ∀ {cs : List C} {vs : List V}, RCs K F Ω H cs vs → RCs K F' Ω' H' cs vs
  | [], [], _ => trivial
  | _ :: _, _ :: _, ⟨n, r, t⟩ => ⟨n, r.go g (fun _ m => nomatch m) ho, RCs.go g ho t⟩
def upA (K : Fg) (B : Bs) (tl : TL) : TA := fun σ H Q => ∃ F Ω ρ G, En K B F Ω H σ ρ ∧ tl ρ G ∧ ∀ cs vs F' Ω' H', Ext F Ω H F' Ω' H' → RCs K F' Ω' H' cs vs → G cs → Q vs H'
structure VA (X : Cx) (es : List Expr) (tl : TL) : Prop where
  pa : ∀ B, PA X es (upA X.K B tl)
theorem va_nil : VA X [] (fun _ G => G []) := ⟨fun B => pa_imp pa_nil fun σ H Q ⟨F, Ω, ρ, G, en, g, k⟩ => k [] [] F Ω H (Ext.refl en.wd) trivial g⟩
theorem va_cons {te : TC} {tl : TL} (h : VC X e te) (t : VA X es tl) (hs : starEach (e :: es) X.env = (false, eval e X.env) :: starEach es X.env := by rfl) : VA X (e :: es) (fun ρ G => te ρ fun c => fzM c fun c' => tl ρ fun cs => G (c' :: cs)) := by
  refine ⟨fun B => pa_imp (pa_cons (h.pe B) (t.pa B) hs) fun σ H Q ⟨F, Ω, ρ, G, en, g, k⟩ => ?_⟩
  refine ⟨F, Ω, ρ, _, en, g, fun c v F1 Ω1 H1 A1 x1 r1 o1 f1 g1 => ?_⟩
  have fr : ∀ {k' : D → Prop}, fz c k' → (∀ d, k' d → tl ρ fun cs => G (.sh d :: cs)) → upA X.K B tl σ H1 fun vs H2 => Q (v :: vs) H2 := by
    intro k' hz hk
    obtain ⟨F2, d, gr, w2, r2, hd, off⟩ := freeze x1.wd r1 o1 hz
    have x2 : Ext F Ω H F2 Ω1 H1 := ⟨x1.sub.trans gr, fun b hb => (off b fun m => hb (f1 b m)).trans (x1.new b hb), x1.keep, x1.here, x1.omg, x1.omn, w2⟩
    exact ⟨F2, Ω1, ρ, _, en.ext x2, hk d hd, fun cs vs F3 Ω3 H3 x3 r3 g3 => k (.sh d :: cs) (v :: vs) F3 Ω3 H3 (x2.trans x3) ⟨by simp, ⟨r2.gr x3.sub, rfl⟩, r3⟩ g3⟩
  cases c with
  | mo I =>
    obtain ⟨a0, rfl, e0, rfl⟩ := r1
    exact ⟨F1, Ω1, ρ, _, en.ext x1, g1, fun cs vs F3 Ω3 H3 x3 r3 g3 => k (.mo I :: cs) (.ref a0 :: vs) F3 Ω3 H3 (x1.trans x3) ⟨by simp, ⟨a0, rfl, x3.omg _ _ e0, rfl⟩, r3⟩ g3⟩
  | un => exact fr g1 fun d h => h
  | sh d => exact fr (k' := fun d => tl ρ fun cs => G (.sh d :: cs)) g1 fun d h => h
  | ol ds => exact fr (k' := fun d => tl ρ fun cs => G (.sh d :: cs)) g1 fun d h => h
  | oll ds => exact fr (k' := fun d => tl ρ fun cs => G (.sh d :: cs)) g1 fun d h => h
  | od ds => exact fr (k' := fun d => tl ρ fun cs => G (.sh d :: cs)) g1 fun d h => h
  | odT ds => exact fr (k' := fun d => tl ρ fun cs => G (.sh d :: cs)) g1 fun d h => h
/-! ### displays -/
theorem vc_tup {x1 : Nat} {tl : TDs} (h : VL X es tl) (hz : es.length ≤ 1000 := by decide) : VC X (.Tuple es x1 pos) (fun ρ G => tl ρ fun ds => ds.length ≤ sizeLine ∧ G (.sh (.tuple ds))) :=
  ⟨fun B => pe_imp (pe_tup (h.pa B)) fun σ H Q ⟨F, Ω, ρ, G, en, g, k⟩ => ⟨F, Ω, ρ, _, en, g, fun ds vs F1 Ω1 H1 x1 r1 g1 => ⟨by rw [r1.length]; exact g1.1, fun p n => (k.ext x1).tup x1.wd n r1 g1.2⟩⟩⟩
theorem vc_lst {tl : TDs} (h : VL X es tl) : VC X (.List es pos) (fun ρ G => tl ρ fun ds => ds.length ≤ sizeLine ∧ G (.ol ds)) :=
  ⟨fun B => pe_imp (pe_lst (h.pa B)) fun σ H Q ⟨F, Ω, ρ, G, en, g, k⟩ => ⟨F, Ω, ρ, _, en, g, fun ds vs F1 Ω1 H1 x1 r1 g1 => ⟨by rw [r1.length]; exact g1.1, fun p n => (k.ext x1).ol x1.wd n r1 g1.2⟩⟩⟩
/-! ### built-in calls -/
def OkC1 (K : Fg) (r : List V → Hp → VK → Prop) (R : C → CK → Prop) : Prop := OkUn K (fun v H Q => r [v] H Q) R
def OkC2 (K : Fg) (r : List V → Hp → VK → Prop) (R : C → C → CK → Prop) : Prop := OkBin K (fun v u H Q => r [v, u] H Q) R
theorem vc_b1 {x : Str} {id : String} {p : Pos} {r : List V → Hp → VK → Prop} {R : C → CK → Prop} (hc : CallR X (.builtin id) r) (ok : OkC1 X.K r R) (hg : Gl X x) (hm : X.mg x = none) (hv : bootBuiltins x = some (.builtin id)) {ta : TC} (ha : SE X a ta)
    (hs : starEach [a] X.env = (false, eval a X.env) :: starEach [] X.env := by rfl) (hn : x ≠ "__name__" := by decide) (hdb : (x == ("__debug__" : Str)) = false := by decide) : VC X (.Call (.Name x p) [a] [] pos) (cUn R ta) :=
  ⟨fun B => pe_imp (pe_callB hc hg hm hv (pa_cons (ha.pe B) pa_nil hs) hn hdb hs) fun σ H Q h => up_un (r := fun v H Q => r [v] H Q) ok h⟩
theorem vc_t1 {x : Str} {id : String} {p : Pos} {r : List V → Hp → VK → Prop} {R : C → CK → Prop} (hc : CallR X (.type id) r) (ok : OkC1 X.K r R) (hg : Gl X x) (hm : X.mg x = none) (hv : bootBuiltins x = some (.type id)) {ta : TC} (ha : SE X a ta)
    (hs : starEach [a] X.env = (false, eval a X.env) :: starEach [] X.env := by rfl) (hn : x ≠ "__name__" := by decide) (hdb : (x == ("__debug__" : Str)) = false := by decide) : VC X (.Call (.Name x p) [a] [] pos) (cUn R ta) :=
  ⟨fun B => pe_imp (pe_callTy hc hg hm hv (pa_cons (ha.pe B) pa_nil hs) hn hdb hs) fun σ H Q h => up_un (r := fun v H Q => r [v] H Q) ok h⟩
theorem vc_b2 {x : Str} {id : String} {p : Pos} {r : List V → Hp → VK → Prop} {R : C → C → CK → Prop} (hc : CallR X (.builtin id) r) (ok : OkC2 X.K r R) (hg : Gl X x) (hm : X.mg x = none) (hv : bootBuiltins x = some (.builtin id)) {ta tb : TC} (ha : SE X a ta) (hb : SE X b tb)
    (hs : starEach [a, b] X.env = (false, eval a X.env) :: starEach [b] X.env := by rfl) (hs2 : starEach [b] X.env = (false, eval b X.env) :: starEach [] X.env := by rfl) (hn : x ≠ "__name__" := by decide) (hdb : (x == ("__debug__" : Str)) = false := by decide) : VC X (.Call (.Name x p) [a, b] [] pos) (cBin R ta tb) :=
  ⟨fun B => pe_imp (pe_callB hc hg hm hv (pa_cons (ha.pe B) (pa_cons (hb.pe B) pa_nil hs2) hs) hn hdb hs (by rw [hs2]; rfl)) fun σ H Q h => up_bin (r := fun v u H Q => r [v, u] H Q) ok h⟩
/-- len -/
def cLen (c : C) (G : CK) : Prop := match c with
  | .sh (.list ds) => ds.length ≤ sizeLine → G (.sh (.int ds.length))
  | .ol ds => ds.length ≤ sizeLine → G (.sh (.int ds.length))
  | .oll ds => ds.length ≤ sizeLine → G (.sh (.int ds.length))
  | .sh (.tuple ds) => ds.length ≤ sizeLine → G (.sh (.int ds.length))
  | .sh (.str z) => z.length ≤ sizeLine ∧ G (.sh (.int z.length))
  | _ => False
theorem RLL.length {F H : Hp} : ∀ {vs : List V} {dss : List (List D)} {as : List Addr}, RLL K F H vs dss as → vs.length = dss.length
  | _, _, _, .nil => rfl
  | _, _, _, .cons _ _ t => congrArg (· + 1) t.length
/-- what is a fact of every held heap may be used behind an evaluation -/
theorem pe_fact {φ : Hp → Prop} {t : TE} (h : PE X e t) (f : ∀ pins σ H s, Inv X pins σ H s → φ H) : PE X e (fun σ H Q => t σ H fun v H' => φ H' → Q v H') :=
  ⟨fun pins s σ H Q I w => thn (h.run pins s σ H _ I w) fun u s1 ⟨v, H1, I1, r, q⟩ => ⟨v, H1, I1, r, q (f _ _ _ _ I1)⟩⟩
def Lens (K : Fg) (H : Hp) : Prop := (∀ a xs, SqL K H a xs → xs.length ≤ sizeLine) ∧ ∀ a xs, SqT K H a xs → xs.length ≤ sizeLine
theorem lens_of {pins : List (Addr × Obj)} {σ : L2.St} {H : Hp} {s : Shared} (I : Inv X pins σ H s) : Lens X.K H := ⟨fun a xs h => (I.list h).choose_spec.2.2, fun a xs h => (I.tuple h).choose_spec.2.2⟩
theorem ok_len {F : Hp} {Ω : Om} {H : Hp} {c : C} {v : V} {A : List Addr} {G : CK} {Q : VK} (w : Wd F Ω H) (r : RC K F Ω H c v A) (h : cLen c G) (k : Fin K F Ω H G Q) : ∃ x n, [v] = [x] ∧ LenV K x H n ∧ (Lens K H → Q (.int n) H) := by
  unfold cLen at h
  split at h
  · rename_i ds
    obtain ⟨a, vs, rfl, ea, qa⟩ := lsC_get (ds := ds) w r rfl
    exact ⟨_, _, rfl, .inl ⟨vs, .inl (.inl ea), rfl⟩, fun L => k.sh (Ext.refl w) (.int _) (by rw [qa.length]; exact h (by rw [← qa.length]; exact L.1 _ _ (.inl (.inl ea))))⟩
  · rename_i ds
    obtain ⟨a, vs, rfl, ea, qa⟩ := lsC_get (ds := ds) w r rfl
    exact ⟨_, _, rfl, .inl ⟨vs, .inl (.inl ea), rfl⟩, fun L => k.sh (Ext.refl w) (.int _) (by rw [qa.length]; exact h (by rw [← qa.length]; exact L.1 _ _ (.inl (.inl ea))))⟩
  · rename_i ds
    obtain ⟨a, vs, as, rfl, _, ea, qa, _⟩ := r
    exact ⟨_, _, rfl, .inl ⟨vs, .inl (.inl ea), rfl⟩, fun L => k.sh (Ext.refl w) (.int _) (by rw [qa.length]; exact h (by rw [← qa.length]; exact L.1 _ _ (.inl (.inl ea))))⟩
  · rename_i ds
    obtain ⟨a, vs, rfl, fa, ea, qa⟩ := tup_get w r
    exact ⟨_, _, rfl, .inr ⟨vs, ea, rfl⟩, fun L => k.sh (Ext.refl w) (.int _) (by rw [qa.length]; exact h (by rw [← qa.length]; exact L.2 _ _ ea))⟩
  · rename_i z
    obtain ⟨r, _⟩ := r
    cases r
    exact ⟨_, _, rfl, ⟨h.1, rfl⟩, fun _ => k.sh (Ext.refl w) (.int _) h.2⟩
  · exact h.elim
theorem vc_len {p : Pos} {ta : TC} (ha : SE X a ta) (hg : Gl X "len") (hm : X.mg "len" = none) (hs : starEach [a] X.env = (false, eval a X.env) :: starEach [] X.env := by rfl) : VC X (.Call (.Name "len" p) [a] [] pos) (cUn cLen ta) :=
  ⟨fun B => pe_imp (pe_fact (φ := Lens X.K) (pe_callB call_len hg hm PySem.boot_len (pa_cons (ha.pe B) pa_nil hs) (by decide) (by decide) hs) fun _ _ _ _ I => lens_of I) fun σ H Q ⟨F, Ω, ρ, G, en, g, k⟩ =>
    ⟨F, Ω, ρ, _, en, g, fun c v F' Ω' H' A x r o gc => ok_len x.wd r gc (k.ext x)⟩⟩
/-- lists of ints, bools -/
theorem ints_of {F : Hp} : ∀ {ns : List Int} {vs : List V}, Reps K F vs (ns.map .int) → vs = ns.map V.int
  | [], _, .nil => rfl
  | _ :: _, _, .cons h t => by cases h; rw [ints_of t]; rfl
theorem bls_of {F : Hp} : ∀ {ns : List Bool} {vs : List V}, Reps K F vs (ns.map .bool) → vs = ns.map V.bl
  | [], _, .nil => rfl
  | _ :: _, _, .cons h t => by cases h; rw [bls_of t]; rfl
theorem strs_of {F : Hp} : ∀ {ns : List Str} {vs : List V}, Reps K F vs (ns.map .str) → vs = ns.map V.str
  | [], _, .nil => rfl
  | _ :: _, _, .cons h t => by cases h; rw [strs_of t]; rfl
theorem reps_ints (F : Hp) : ∀ ns : List Int, Reps K F (ns.map V.int) (ns.map .int)
  | [] => .nil
  | i :: r => .cons (.int i) (reps_ints F r)
theorem reps_strs (F : Hp) : ∀ ns : List Str, Reps K F (ns.map V.str) (ns.map .str)
  | [] => .nil
  | i :: r => .cons (.str i) (reps_strs F r)
def cSum (c : C) (G : CK) : Prop := ∃ ns : List Int, lsC c = some (ns.map .int) ∧ G (.sh (.int ns.sum))
theorem ok_sum : OkC1 K (rSum K) cSum := by
  intro F Ω H c v A G Q w r ⟨ns, hl, h⟩ k
  obtain ⟨a, vs, rfl, ea, qa⟩ := lsC_get w r hl
  cases ints_of qa
  exact ⟨a, ns, rfl, .inl (.inl ea), k.sh (Ext.refl w) (.int _) h⟩
theorem vc_sum {p : Pos} {ta : TC} (ha : SE X a ta) (hg : Gl X "sum") (hm : X.mg "sum" = none) (hc : X.calm = true := by rfl) (hs : starEach [a] X.env = (false, eval a X.env) :: starEach [] X.env := by rfl) : VC X (.Call (.Name "sum" p) [a] [] pos) (cUn cSum ta) := vc_b1 (cr_sum hc) ok_sum hg hm (by decide +kernel) ha hs
def cAll (c : C) (G : CK) : Prop := ∃ bs : List Bool, lsC c = some (bs.map .bool) ∧ G (.sh (.bool (bs.all id)))
def cAny (c : C) (G : CK) : Prop := ∃ bs : List Bool, lsC c = some (bs.map .bool) ∧ G (.sh (.bool (bs.any id)))
theorem ok_all : OkC1 K (rAll K) cAll := by
  intro F Ω H c v A G Q w r ⟨ns, hl, h⟩ k
  obtain ⟨a, vs, rfl, ea, qa⟩ := lsC_get w r hl
  cases bls_of qa
  exact ⟨a, ns, rfl, .inl (.inl ea), k.sh (Ext.refl w) (.bl _) h⟩
theorem ok_any : OkC1 K (rAny K) cAny := by
  intro F Ω H c v A G Q w r ⟨ns, hl, h⟩ k
  obtain ⟨a, vs, rfl, ea, qa⟩ := lsC_get w r hl
  cases bls_of qa
  exact ⟨a, ns, rfl, .inl (.inl ea), k.sh (Ext.refl w) (.bl _) h⟩
theorem vc_all {p : Pos} {ta : TC} (ha : SE X a ta) (hg : Gl X "all") (hm : X.mg "all" = none) (hc : X.calm = true := by rfl) (hs : starEach [a] X.env = (false, eval a X.env) :: starEach [] X.env := by rfl) : VC X (.Call (.Name "all" p) [a] [] pos) (cUn cAll ta) := vc_b1 (cr_all hc) ok_all hg hm (by decide +kernel) ha hs
theorem vc_any {p : Pos} {ta : TC} (ha : SE X a ta) (hg : Gl X "any") (hm : X.mg "any" = none) (hc : X.calm = true := by rfl) (hs : starEach [a] X.env = (false, eval a X.env) :: starEach [] X.env := by rfl) : VC X (.Call (.Name "any" p) [a] [] pos) (cUn cAny ta) := vc_b1 (cr_any hc) ok_any hg hm (by decide +kernel) ha hs
/-- int of an int, a bool -/
def cInt (c : C) (G : CK) : Prop := match c with
  | .sh (.int i) => G (.sh (.int i))
  | _ => False
theorem vc_intI {p : Pos} {ta : TC} (ha : SE X a ta) (hg : Gl X "int") (hm : X.mg "int" = none) (hs : starEach [a] X.env = (false, eval a X.env) :: starEach [] X.env := by rfl) : VC X (.Call (.Name "int" p) [a] [] pos) (cUn cInt ta) :=
  vc_t1 call_int1 (fun F Ω H c v A G Q w r h k => by
    unfold cInt at h
    split at h
    · rename_i i
      obtain ⟨r, _⟩ := r
      cases r
      exact .inl ⟨i, rfl, k.sh (Ext.refl w) (.int _) h⟩
    · exact h.elim) hg hm (by decide +kernel) ha hs
def cAbs (c : C) (G : CK) : Prop := match c with
  | .sh (.int i) => G (.sh (.int (if i < 0 then -i else i)))
  | _ => False
theorem vc_abs {p : Pos} {ta : TC} (ha : SE X a ta) (hg : Gl X "abs") (hm : X.mg "abs" = none) (hs : starEach [a] X.env = (false, eval a X.env) :: starEach [] X.env := by rfl) : VC X (.Call (.Name "abs" p) [a] [] pos) (cUn cAbs ta) :=
  vc_b1 call_abs (fun F Ω H c v A G Q w r h k => by
    unfold cAbs at h
    split at h
    · rename_i i
      obtain ⟨r, _⟩ := r
      cases r
      exact ⟨i, rfl, k.sh (Ext.refl w) (.int _) h⟩
    · exact h.elim) hg hm (by decide +kernel) ha hs
/-- str of an int -/
def cStr (c : C) (G : CK) : Prop := match c with
  | .sh (.int i) => i.natAbs.log2 < 1920 ∧ G (.sh (.str (toString i)))
  | _ => False
theorem vc_strI {p : Pos} {ta : TC} (ha : SE X a ta) (hg : Gl X "str") (hm : X.mg "str" = none) (hs : starEach [a] X.env = (false, eval a X.env) :: starEach [] X.env := by rfl) : VC X (.Call (.Name "str" p) [a] [] pos) (cUn cStr ta) :=
  vc_t1 call_str_int (fun F Ω H c v A G Q w r h k => by
    unfold cStr at h
    split at h
    · rename_i i
      obtain ⟨r, _⟩ := r
      cases r
      exact ⟨i, rfl, h.1, k.sh (Ext.refl w) (.str _) h.2⟩
    · exact h.elim) hg hm (by decide +kernel) ha hs
/-- list(xs), tuple(xs) -/
def cList (c : C) (G : CK) : Prop := match c with
  | .sh (.list ds) => G (.ol ds)
  | .ol ds => G (.ol ds)
  | .sh (.tuple ds) => G (.ol ds)
  | _ => False
theorem vc_list {p : Pos} {ta : TC} (ha : SE X a ta) (hg : Gl X "list") (hm : X.mg "list" = none) (hs : starEach [a] X.env = (false, eval a X.env) :: starEach [] X.env := by rfl) : VC X (.Call (.Name "list" p) [a] [] pos) (cUn cList ta) :=
  vc_t1 call_list_of (fun F Ω H c v A G Q w r h k => by
    unfold cList at h
    split at h
    · rename_i ds
      obtain ⟨a, vs, rfl, ea, qa⟩ := lsC_get (ds := ds) w r rfl
      exact ⟨a, vs, rfl, .inl (.inl (.inl ea)), fun l n => k.ol w n qa h⟩
    · rename_i ds
      obtain ⟨a, vs, rfl, ea, qa⟩ := lsC_get (ds := ds) w r rfl
      exact ⟨a, vs, rfl, .inl (.inl (.inl ea)), fun l n => k.ol w n qa h⟩
    · rename_i ds
      obtain ⟨a, vs, rfl, fa, ea, qa⟩ := tup_get w r
      exact ⟨a, vs, rfl, .inr ea, fun l n => k.ol w n qa h⟩
    · exact h.elim) hg hm (by decide +kernel) ha hs
def cTuple (c : C) (G : CK) : Prop := match c with
  | .sh (.list ds) => G (.sh (.tuple ds))
  | .ol ds => G (.sh (.tuple ds))
  | .sh (.tuple ds) => G (.sh (.tuple ds))
  | _ => False
theorem vc_tuple {p : Pos} {ta : TC} (ha : SE X a ta) (hg : Gl X "tuple") (hm : X.mg "tuple" = none) (hs : starEach [a] X.env = (false, eval a X.env) :: starEach [] X.env := by rfl) : VC X (.Call (.Name "tuple" p) [a] [] pos) (cUn cTuple ta) :=
  vc_t1 call_tuple_of (fun F Ω H c v A G Q w r h k => by
    unfold cTuple at h
    split at h
    · rename_i ds
      obtain ⟨a, vs, rfl, ea, qa⟩ := lsC_get (ds := ds) w r rfl
      exact ⟨a, vs, rfl, .inl ⟨.inl (.inl ea), fun l n => k.tup w n qa h⟩⟩
    · rename_i ds
      obtain ⟨a, vs, rfl, ea, qa⟩ := lsC_get (ds := ds) w r rfl
      exact ⟨a, vs, rfl, .inl ⟨.inl (.inl ea), fun l n => k.tup w n qa h⟩⟩
    · rename_i ds
      obtain ⟨a, vs, rfl, fa, ea, qa⟩ := tup_get w r
      exact ⟨a, vs, rfl, .inr ⟨ea, k.sh (Ext.refl w) (.tup fa qa) h⟩⟩
    · exact h.elim) hg hm (by decide +kernel) ha hs
/-- min, max of two ints -/
abbrev cMax2 := cI2 fun i j G => G (.sh (.int (if j > i then j else i)))
abbrev cMin2 := cI2 fun i j G => G (.sh (.int (if j < i then j else i)))
theorem ok_cI2 {g : Int → Int → V} {f : Int → Int → CK → Prop} {d : Int → Int → D} (hr : ∀ F i j, Rep K F (g i j) (d i j)) (hf : ∀ i j G, f i j G → G (.sh (d i j))) : OkC2 K (fun xs H Q => ∃ i j, xs = [.int i, .int j] ∧ Q (g i j) H) (cI2 f) := by
  intro F Ω H c1 c2 v1 v2 A1 A2 G Q w r1 r2 h k
  unfold cI2 at h
  split at h
  · rename_i i j
    obtain ⟨r1, _⟩ := r1
    obtain ⟨r2, _⟩ := r2
    cases r1
    cases r2
    exact ⟨i, j, rfl, k.sh (Ext.refl w) (hr F i j) (hf i j _ h)⟩
  · exact h.elim
theorem vc_max2 {p : Pos} {ta tb : TC} (ha : SE X a ta) (hb : SE X b tb) (hg : Gl X "max") (hm : X.mg "max" = none) (hc : X.calm = true := by rfl) (hs : starEach [a, b] X.env = (false, eval a X.env) :: starEach [b] X.env := by rfl) (hs2 : starEach [b] X.env = (false, eval b X.env) :: starEach [] X.env := by rfl) :
    VC X (.Call (.Name "max" p) [a, b] [] pos) (cBin cMax2 ta tb) := vc_b2 (call_max2 hc) (ok_cI2 (d := fun i j => .int (if j > i then j else i)) (fun _ _ _ => .int _) fun _ _ _ h => h) hg hm (by decide +kernel) ha hb hs hs2
theorem vc_min2 {p : Pos} {ta tb : TC} (ha : SE X a ta) (hb : SE X b tb) (hg : Gl X "min") (hm : X.mg "min" = none) (hc : X.calm = true := by rfl) (hs : starEach [a, b] X.env = (false, eval a X.env) :: starEach [b] X.env := by rfl) (hs2 : starEach [b] X.env = (false, eval b X.env) :: starEach [] X.env := by rfl) :
    VC X (.Call (.Name "min" p) [a, b] [] pos) (cBin cMin2 ta tb) := vc_b2 (call_min2 hc) (ok_cI2 (d := fun i j => .int (if j < i then j else i)) (fun _ _ _ => .int _) fun _ _ _ h => h) hg hm (by decide +kernel) ha hb hs hs2
/-- min, max of a list of ints -/
def cMaxL (c : C) (G : CK) : Prop := ∃ ns : List Int, lsC c = some (ns.map .int) ∧ 0 < ns.length ∧ ∀ m, m ∈ ns → (∀ y, y ∈ ns → y ≤ m) → G (.sh (.int m))
def cMinL (c : C) (G : CK) : Prop := ∃ ns : List Int, lsC c = some (ns.map .int) ∧ 0 < ns.length ∧ ∀ m, m ∈ ns → (∀ y, y ∈ ns → m ≤ y) → G (.sh (.int m))
theorem vc_maxL {p : Pos} {ta : TC} (ha : SE X a ta) (hg : Gl X "max") (hm : X.mg "max" = none) (hc : X.calm = true := by rfl) (hs : starEach [a] X.env = (false, eval a X.env) :: starEach [] X.env := by rfl) : VC X (.Call (.Name "max" p) [a] [] pos) (cUn cMaxL ta) :=
  vc_b1 (cr_max hc) (fun F Ω H c v A G Q w r ⟨ns, hl, hn, h⟩ k => by
    obtain ⟨a, vs, rfl, ea, qa⟩ := lsC_get w r hl
    cases ints_of qa
    exact ⟨a, ns, rfl, .inl (.inl ea), hn, fun m h1 h2 => k.sh (Ext.refl w) (.int _) (h m h1 h2)⟩) hg hm (by decide +kernel) ha hs
theorem vc_minL {p : Pos} {ta : TC} (ha : SE X a ta) (hg : Gl X "min") (hm : X.mg "min" = none) (hc : X.calm = true := by rfl) (hs : starEach [a] X.env = (false, eval a X.env) :: starEach [] X.env := by rfl) : VC X (.Call (.Name "min" p) [a] [] pos) (cUn cMinL ta) :=
  vc_b1 (cr_min hc) (fun F Ω H c v A G Q w r ⟨ns, hl, hn, h⟩ k => by
    obtain ⟨a, vs, rfl, ea, qa⟩ := lsC_get w r hl
    cases ints_of qa
    exact ⟨a, ns, rfl, .inl (.inl ea), hn, fun m h1 h2 => k.sh (Ext.refl w) (.int _) (h m h1 h2)⟩) hg hm (by decide +kernel) ha hs
/-- sorted: of ints, of texts -/
def cSortI (c : C) (G : CK) : Prop := ∃ ns : List Int, lsC c = some (ns.map .int) ∧ ∀ ns' : List Int, ns'.Perm ns → ns'.Pairwise (· ≤ ·) → G (.ol (ns'.map .int))
theorem vc_sortI {p : Pos} {ta : TC} (ha : SE X a ta) (hg : Gl X "sorted") (hm : X.mg "sorted" = none) (hs : starEach [a] X.env = (false, eval a X.env) :: starEach [] X.env := by rfl) : VC X (.Call (.Name "sorted" p) [a] [] pos) (cUn cSortI ta) :=
  vc_b1 cr_sortedI (fun F Ω H c v A G Q w r ⟨ns, hl, h⟩ k => by
    obtain ⟨a, vs, rfl, ea, qa⟩ := lsC_get w r hl
    cases ints_of qa
    exact ⟨a, ns, rfl, .inl (.inl ea), fun ns' p h1 h2 n => k.ol w n (reps_ints F ns') (h ns' h1 h2)⟩) hg hm (by decide +kernel) ha hs
end
end TL
namespace TL
open PySem PySem.Spec PyProof.Rows L2
/-! ### a def's promise over contents -/
abbrev Prom := List C → (D → Prop) → Prop
def spT (K : Fg) (f : Prom) : Sp := fun vs H Q _ => ∃ F Ω cs G, Wd F Ω H ∧ RCs K F Ω H cs vs ∧ f cs G ∧ ∀ d v F' Ω' H', Ext F Ω H F' Ω' H' → Rep K F' v d → G d → Q v H'
section
variable {X : Cx} {a b e e1 e2 : Expr} {es rest : List Expr} {pos : Pos} {K : Fg}
theorem vc_call {CX : CXT} {k : Nat} {f : Addr} {fd : FuncData} {ps : List Str} {fT : Prom} {x : Str} {p : Pos} {tl : TL} (F : FnOk X.prog X.w X.K X.mg X.base CX0 k f fd ps (spT X.K fT)) (hr : Room k X.A) (hg : Gl X x) (hm : X.mg x = some (.ref f)) (hk : PySem.W.keepIn X.K (.ref f) = true) (hb : Binds X.K fd ps [])
    (ha : VA X (e :: es) tl) (hdb : (x == ("__debug__" : Str)) = false := by decide) (he : starEach (e :: es) X.env = (false, eval e X.env) :: starEach es X.env := by rfl) (hpl : (backTo pos (starEach es X.env)).any (·.1) = false := by rfl) :
    VC X (.Call (.Name x p) (e :: es) [] pos) (fun ρ G => tl ρ fun cs => fT cs fun d => G (.sh d)) := by
  refine ⟨fun B => pe_imp (pe_call F hr hg hm hk hb .nil pass0 (ha.pa B) hdb he hpl) fun σ H Q ⟨F0, Ω, ρ, G, en, g, k0⟩ => ⟨F0, Ω, ρ, _, en, g, fun cs vs F1 Ω1 H1 x1 r1 g1 => ?_⟩⟩
  show spT X.K fT (vs ++ []) H1 Q E0
  rw [List.append_nil]
  exact ⟨F1, Ω1, cs, _, x1.wd, r1, g1, fun d v F2 Ω2 H2 x2 r2 g2 => k0.sh (x1.trans x2) r2 g2⟩
theorem vc_call0 {k : Nat} {f : Addr} {fd : FuncData} {ps : List Str} {fT : Prom} {x : Str} {p : Pos} (F : FnOk X.prog X.w X.K X.mg X.base CX0 k f fd ps (spT X.K fT)) (hr : Room k X.A) (hg : Gl X x) (hm : X.mg x = some (.ref f)) (hk : PySem.W.keepIn X.K (.ref f) = true) (hb : Binds X.K fd ps [])
    (hdb : (x == ("__debug__" : Str)) = false := by decide) : VC X (.Call (.Name x p) [] [] pos) (fun ρ G => fT [] fun d => G (.sh d)) := by
  refine ⟨fun B => pe_imp (pe_call0 F hr hg hm hk hb .nil pass0 hdb) fun σ H Q ⟨F0, Ω, ρ, G, en, g, k0⟩ => ?_⟩
  exact ⟨F0, Ω, [], _, en.wd, trivial, g, fun d v F2 Ω2 H2 x2 r2 g2 => k0.sh x2 r2 g2⟩
/-! ### tests -/
def truC (c : C) (G : Bool → Prop) : Prop := match c with
  | .sh .none => G false
  | .sh (.bool b) => G b
  | .sh (.int i) => G (i != 0)
  | .sh (.str y) => y.length ≤ sizeLine ∧ G ((y.length : Int) != 0)
  | .sh (.list ds) => G (!ds.isEmpty)
  | .sh (.tuple ds) => G (!ds.isEmpty)
  | .ol ds => G (!ds.isEmpty)
  | .oll ds => G (!ds.isEmpty)
  | .od ds => G (!ds.isEmpty)
  | _ => False
theorem Reps.isEmpty {F : Hp} : ∀ {vs : List V} {ds : List D}, Reps K F vs ds → vs.isEmpty = ds.isEmpty
  | _, _, .nil => rfl
  | _, _, .cons _ _ => rfl
theorem vb_tru {ta : TC} (ha : SE X a ta) (he : ∀ whole, isTrue a X.env whole = (do let v ← whole; standAt a.pos; holding [v] (truthy v)) := by exact fun _ => rfl) : VB X a (fun ρ G => ta ρ fun c => truC c G) := by
  refine ⟨fun B => pt_imp (pt_truth (ha.pe B) he) fun σ H Q ⟨F, Ω, ρ, G, en, g, k⟩ => ⟨F, Ω, ρ, _, en, g, fun c v F' Ω' H' A x r o gc => ?_⟩⟩
  have w := x.wd
  have fin : ∀ b, G b → Q b H' := fun b g => k b F' Ω' H' x g
  unfold truC at gc
  split at gc
  · obtain ⟨r, _⟩ := r; cases r; exact ⟨_, rfl, fin _ gc⟩
  · obtain ⟨r, _⟩ := r; cases r; exact ⟨_, rfl, fin _ gc⟩
  · obtain ⟨r, _⟩ := r; cases r; exact ⟨_, rfl, fin _ gc⟩
  · obtain ⟨r, _⟩ := r; cases r; exact ⟨_, ⟨gc.1, rfl⟩, fin _ gc.2⟩
  · rename_i ds
    obtain ⟨a, vs, rfl, ea, qa⟩ := lsC_get (ds := ds) w r rfl
    exact ⟨_, .inl ⟨vs, .inl (.inl ea), by rw [qa.isEmpty]⟩, fin _ gc⟩
  · rename_i ds
    obtain ⟨a, vs, rfl, fa, ea, qa⟩ := tup_get w r
    exact ⟨_, .inr (.inl ⟨vs, ea, by rw [qa.isEmpty]⟩), fin _ gc⟩
  · rename_i ds
    obtain ⟨a, vs, rfl, ea, qa⟩ := lsC_get (ds := ds) w r rfl
    exact ⟨_, .inl ⟨vs, .inl (.inl ea), by rw [qa.isEmpty]⟩, fin _ gc⟩
  · obtain ⟨a, vs, as, rfl, _, ea, qa, _⟩ := r
    refine ⟨_, .inl ⟨vs, .inl (.inl ea), ?_⟩, fin _ gc⟩
    cases qa <;> rfl
  · obtain ⟨a, ks, rfl, _, ea, qa⟩ := r
    refine ⟨_, .inr (.inr ⟨ks, ea, ?_⟩), fin _ gc⟩
    cases qa <;> rfl
  · exact gc.elim
def bAnd (ta tb : TB) : TB := fun ρ G => ta ρ fun c => if c = true then tb ρ G else G false
def bOr (ta tb : TB) : TB := fun ρ G => ta ρ fun c => if c = true then G true else tb ρ G
def bNot (ta : TB) : TB := fun ρ G => ta ρ fun c => G (!c)
theorem wb_and1 {ta : TB} (ha : VB X a ta) : WB X (.BoolOp .And [a] pos) ta := ⟨fun B => pw_and1 (ha.pt B)⟩
theorem wb_or1 {ta : TB} (ha : VB X a ta) : WB X (.BoolOp .Or [a] pos) ta := ⟨fun B => pw_or1 (ha.pt B)⟩
theorem wb_and {ta tb : TB} (ha : VB X a ta) (hb : WB X (.BoolOp .And (b :: rest) pos) tb) : WB X (.BoolOp .And (a :: b :: rest) pos) (bAnd ta tb) := by
  refine ⟨fun B => pw_imp (pw_and (ha.pt B) (hb.pw B)) fun σ H Q ⟨F, Ω, ρ, G, en, g, k⟩ => ⟨F, Ω, ρ, _, en, g, fun c F' Ω' H' x gc => ?_⟩⟩
  cases c with
  | true => exact iteT ⟨F', Ω', ρ, G, en.ext x, (if_pos rfl : (if true = true then tb ρ G else G false) = _) ▸ gc, k.ext x⟩
  | false => exact iteF (k false F' Ω' H' x (by simpa using gc))
theorem wb_or {ta tb : TB} (ha : VB X a ta) (hb : WB X (.BoolOp .Or (b :: rest) pos) tb) : WB X (.BoolOp .Or (a :: b :: rest) pos) (bOr ta tb) := by
  refine ⟨fun B => pw_imp (pw_or (ha.pt B) (hb.pw B)) fun σ H Q ⟨F, Ω, ρ, G, en, g, k⟩ => ⟨F, Ω, ρ, _, en, g, fun c F' Ω' H' x gc => ?_⟩⟩
  cases c with
  | true => exact iteT (k true F' Ω' H' x (by simpa using gc))
  | false => exact iteF ⟨F', Ω', ρ, G, en.ext x, by simpa using gc, k.ext x⟩
theorem vb_not {ta : TB} (ha : VB X a ta) : VB X (.UnaryOp .Not a pos) (bNot ta) :=
  ⟨fun B => pt_imp (pt_not (ha.pt B)) fun σ H Q ⟨F, Ω, ρ, G, en, g, k⟩ => ⟨F, Ω, ρ, _, en, g, fun c F' Ω' H' x gc => k _ F' Ω' H' x gc⟩⟩
/-- values of and, or, not: bools -/
theorem vc_one {op} {ta : TC} (ha : VC X a ta) : VC X (.BoolOp op [a] pos) ta := ⟨fun B => pe_one (ha.pe B)⟩
def cAnd (ta tb : TC) : TC := fun ρ G => ta ρ fun c => blC c fun b => if b = true then tb ρ G else G (.sh (.bool false))
def cOr (ta tb : TC) : TC := fun ρ G => ta ρ fun c => blC c fun b => if b = true then G (.sh (.bool true)) else tb ρ G
theorem blC_get {F H : Hp} {Ω : Om} {c : C} {v : V} {A : List Addr} {G : Bool → Prop} (r : RC K F Ω H c v A) (h : blC c G) : ∃ b, v = .bl b ∧ G b := by
  unfold blC at h
  split at h
  · rename_i b
    obtain ⟨r, _⟩ := r
    cases r
    exact ⟨b, rfl, h⟩
  · exact h.elim
theorem vc_and {ta tb : TC} (ha : SE X a ta) (hb : VC X (.BoolOp .And (b :: rest) pos) tb) : VC X (.BoolOp .And (a :: b :: rest) pos) (cAnd ta tb) := by
  refine ⟨fun B => pe_imp (pe_and (ha.pe B) (hb.pe B)) fun σ H Q ⟨F, Ω, ρ, G, en, g, k⟩ => ⟨F, Ω, ρ, _, en, g, fun c v F' Ω' H' A x r o gc => ?_⟩⟩
  obtain ⟨z, rfl, gz⟩ := blC_get r gc
  refine ⟨z, rfl, ?_⟩
  cases z with
  | true => exact iteT ⟨F', Ω', ρ, G, en.ext x, by simpa using gz, k.ext x⟩
  | false => exact iteF (k.sh x (.bl false) (by simpa using gz))
theorem vc_or {ta tb : TC} (ha : SE X a ta) (hb : VC X (.BoolOp .Or (b :: rest) pos) tb) : VC X (.BoolOp .Or (a :: b :: rest) pos) (cOr ta tb) := by
  refine ⟨fun B => pe_imp (pe_or (ha.pe B) (hb.pe B)) fun σ H Q ⟨F, Ω, ρ, G, en, g, k⟩ => ⟨F, Ω, ρ, _, en, g, fun c v F' Ω' H' A x r o gc => ?_⟩⟩
  obtain ⟨z, rfl, gz⟩ := blC_get r gc
  refine ⟨z, rfl, ?_⟩
  cases z with
  | true => exact iteT (k.sh x (.bl true) (by simpa using gz))
  | false => exact iteF ⟨F', Ω', ρ, G, en.ext x, by simpa using gz, k.ext x⟩
theorem vc_not {ta : TC} (ha : SE X a ta) : VC X (.UnaryOp .Not a pos) (fun ρ G => ta ρ fun c => blC c fun b => G (.sh (.bool (!b)))) := by
  refine ⟨fun B => pe_imp (pe_not (ha.pe B)) fun σ H Q ⟨F, Ω, ρ, G, en, g, k⟩ => ⟨F, Ω, ρ, _, en, g, fun c v F' Ω' H' A x r o gc => ?_⟩⟩
  obtain ⟨z, rfl, gz⟩ := blC_get r gc
  exact ⟨z, rfl, k.sh x (.bl _) gz⟩
/-- a if t else b -/
def cIfE (t : TB) (ta tb : TC) : TC := fun ρ G => t ρ fun c => if c = true then ta ρ G else tb ρ G
theorem vc_if {c : Expr} {t : TB} {ta tb : TC} (hc : VB X c t) (ha : VC X a ta) (hb : VC X b tb) : VC X (.IfExp c a b pos) (cIfE t ta tb) := by
  refine ⟨fun B => pe_imp (pe_ifExp (hc.pt B) (ha.pe B) (hb.pe B)) fun σ H Q ⟨F, Ω, ρ, G, en, g, k⟩ => ⟨F, Ω, ρ, _, en, g, fun c F' Ω' H' x gc => ?_⟩⟩
  cases c with
  | true => exact iteT ⟨F', Ω', ρ, G, en.ext x, by simpa using gc, k.ext x⟩
  | false => exact iteF ⟨F', Ω', ρ, G, en.ext x, by simpa using gc, k.ext x⟩
theorem se_if {c : Expr} {t : TB} {ta tb : TC} (hc : VB X c t) (ha : SE X a ta) (hb : SE X b tb) : SE X (.IfExp c a b pos) (cIfE t ta tb) := by
  refine ⟨fun B => pe_imp (pe_ifExp (hc.pt B) (ha.pe B) (hb.pe B)) fun σ H Q ⟨F, Ω, ρ, G, en, g, k⟩ => ⟨F, Ω, ρ, _, en, g, fun c F' Ω' H' x gc => ?_⟩⟩
  cases c with
  | true => exact iteT ⟨F', Ω', ρ, G, en.ext x, by simpa using gc, k.ext x⟩
  | false => exact iteF ⟨F', Ω', ρ, G, en.ext x, by simpa using gc, k.ext x⟩
/-- a < b < c -/
theorem pe_chainC {op op' : CmpOp} {r r' : R2} {R R' : C → C → CK → Prop} {c : Expr} (ho : OpR X (compareOp op) r) (ho' : OpR X (compareOp op') r') (ok : OkBin X.K r R) (ok' : OkBin X.K r' R') {ta tb tc : TC} (ha : SE X a ta) (hb : SE X b tb) (hc : SE X c tc) :
    (∀ B σ H Q, upC X.K B (fun ρ G => ta ρ fun x => tb ρ fun y => R x y fun z => blC z fun k => if k = true then tc ρ fun u => R' y u G else G (.sh (.bool false))) σ H Q → tChain r r' (upS X.K B ta) (upS X.K B tb) (upS X.K B tc) σ H Q) := by
  intro B σ H Q ⟨F, Ω, ρ, G, en, g, k⟩
  refine ⟨F, Ω, ρ, _, en, g, fun c1 v1 F1 Ω1 H1 A1 x1 r1 o1 g1 => ⟨F1, Ω1, ρ, _, en.ext x1, g1, fun c2 v2 F2 Ω2 H2 A2 x2 r2 o2 g2 => ?_⟩⟩
  refine ok F2 Ω2 H2 c1 c2 v1 v2 A1 A2 _ _ x2.wd (r1.ext x2 o1) r2 g2 fun c3 v3 F3 Ω3 H3 A3 x3 r3 o3 f3 g3 => ?_
  obtain ⟨z, rfl, gz⟩ := blC_get r3 g3
  refine ⟨z, rfl, ?_⟩
  have en3 := ((en.ext x1).ext x2).ext x3
  have k3 := k.ext ((x1.trans x2).trans x3)
  cases z with
  | true => exact iteT ⟨F3, Ω3, ρ, _, en3, by simpa using gz, fun c4 v4 F4 Ω4 H4 A4 x4 r4 o4 g4 => ok' F4 Ω4 H4 c2 c4 v2 v4 A2 A4 _ _ x4.wd ((r2.ext x3 o2).ext x4 (o2.ext x3 r2.there)) r4 g4 (k3.ext x4)⟩
  | false => exact iteF (k3.sh (Ext.refl x3.wd) (.bl false) (by simpa using gz))
theorem vc_chain {op op' : CmpOp} {r r' : R2} {R R' : C → C → CK → Prop} {c : Expr} (ho : OpR X (compareOp op) r) (ok : OkBin X.K r R) (ho' : OpR X (compareOp op') r') (ok' : OkBin X.K r' R') {ta tb tc : TC} (ha : SE X a ta) (hb : SE X b tb) (hc : SE X c tc)
    (hm : lastMarks [op, op'] [b, c] = false := by with_unfolding_all rfl) : VC X (.Compare a [op, op'] [b, c] pos) (fun ρ G => ta ρ fun x => tb ρ fun y => R x y fun z => blC z fun k => if k = true then tc ρ fun u => R' y u G else G (.sh (.bool false))) :=
  ⟨fun B => pe_imp (pe_chain ho ho' (ha.pe B) (hb.pe B) (hc.pe B) hm) (pe_chainC ho ho' ok ok' ha hb hc B)⟩
theorem vb_chain {op op' : CmpOp} {r r' : R2} {R R' : C → C → CK → Prop} {c : Expr} (ho : OpR X (compareOp op) r) (ok : OkBin X.K r R) (ho' : OpR X (compareOp op') r') (ok' : OkBin X.K r' R') {ta tb tc : TC} (ha : SE X a ta) (hb : SE X b tb) (hc : SE X c tc)
    (hm : lastMarks [op, op'] [b, c] = false := by with_unfolding_all rfl) : VB X (.Compare a [op, op'] [b, c] pos) (fun ρ G => ta ρ fun x => tb ρ fun y => R x y fun z => blC z fun k => if k = true then tc ρ fun u => R' y u fun z => blC z G else G false) := by
  refine ⟨fun B => pt_imp (pt_chain ho ho' (ha.pe B) (hb.pe B) (hc.pe B) hm) fun σ H Q ⟨F, Ω, ρ, G, en, g, k⟩ => pe_chainC ho ho' ok ok' ha hb hc B σ H _ ⟨F, Ω, ρ, fun c => blC c G, en, g, fun c v F' Ω' H' A x r o f gc => ?_⟩⟩
  obtain ⟨z, rfl, gz⟩ := blC_get r gc
  exact ⟨z, rfl, k z F' Ω' H' x gz⟩
end
end TL
namespace TL
open PySem PySem.Spec PyProof.Rows L2
/-! ### statements -/
structure DD where
  nx : List C → Prop
  rt : D → Prop
  bk : List C → Prop := fun _ => False
  ct : List C → Prop := fun _ => False
abbrev TR := DD → List C → Prop
structure Cont (K : Fg) (B : Bs) (F : Hp) (d : DD) (De : Ends) : Prop where
  nx : ∀ σ' F' Ω' H' ρ', Gr F F' → En K B F' Ω' H' σ' ρ' → d.nx ρ' → De.nx σ' H'
  rt : ∀ v F' Ω' H' x, Gr F F' → Ext B.F B.Ω B.H F' Ω' H' → Rep K F' v x → d.rt x → De.rt v H'
  bk : ∀ σ' F' Ω' H' ρ', Gr F F' → En K B F' Ω' H' σ' ρ' → d.bk ρ' → De.bk σ' H'
  ct : ∀ σ' F' Ω' H' ρ', Gr F F' → En K B F' Ω' H' σ' ρ' → d.ct ρ' → De.ct σ' H'
theorem Cont.gr {K : Fg} {B : Bs} {F F1 : Hp} {d : DD} {De : Ends} (k : Cont K B F d De) (g : Gr F F1) : Cont K B F1 d De :=
  ⟨fun σ' F' Ω' H' ρ' g' => k.nx σ' F' Ω' H' ρ' (g.trans g'), fun v F' Ω' H' x g' => k.rt v F' Ω' H' x (g.trans g'), fun σ' F' Ω' H' ρ' g' => k.bk σ' F' Ω' H' ρ' (g.trans g'), fun σ' F' Ω' H' ρ' g' => k.ct σ' F' Ω' H' ρ' (g.trans g')⟩
def upT (K : Fg) (B : Bs) (tr : TR) : TS := fun De σ H => ∃ F Ω ρ d, En K B F Ω H σ ρ ∧ tr d ρ ∧ Cont K B F d De
structure VS (X : Cx) (st : Stmt) (tr : TR) : Prop where
  ps : ∀ B, PS X st (upT X.K B tr)
structure VSs (X : Cx) (st : List Stmt) (tr : TR) : Prop where
  pss : ∀ B, PSs X st (upT X.K B tr)
def putA (As : Nat → List Addr) (i : Nat) (A : List Addr) : Nat → List Addr := fun j => if j = i then A else As j
theorem putA_same {As : Nat → List Addr} {i : Nat} {A : List Addr} : putA As i A i = A := if_pos rfl
theorem putA_ne {As : Nat → List Addr} {i j : Nat} {A : List Addr} (h : j ≠ i) : putA As i A j = As j := if_neg h
theorem En.set {K : Fg} {B : Bs} {F F' : Hp} {Ω Ω' : Om} {H H' : Hp} {σ : L2.St} {ρ : List C} {c : C} {v : V} {A : List Addr} (e : En K B F Ω H σ ρ) (x : Ext F Ω H F' Ω' H') (r : RC K F' Ω' H' c v A) (o : Ow F' Ω' A) (f : ∀ a ∈ A, H a = none) (i : Nat) :
    En K B F' Ω' H' (σ.set i (some v)) (ρ.set i c) := by
  have e' := e.ext x
  obtain ⟨As, h1, h2, h3⟩ := e'.own
  obtain ⟨As0, h10, h20, h30⟩ := e.own
  -- the old ones stand in H
  obtain ⟨As, h1, h2, h3, hH⟩ : ∃ As : Nat → List Addr, (∀ i c, ρ[i]? = some c → c ≠ .un → ∃ v, σ[i]? = some (some v) ∧ RC K F' Ω' H' c v (As i)) ∧ (∀ i, ∀ a ∈ As i, F' a = none ∧ Ω' a = none ∧ H' a ≠ none ∧ B.H a = none) ∧ (∀ i j, i ≠ j → ∀ a ∈ As i, a ∉ As j) ∧ ∀ i, ∀ a ∈ As i, H a ≠ none := by
    refine ⟨As0, fun i c hc hn => ?_, fun i a m => ?_, h30, fun i a m => (h20 i a m).2.2.1⟩
    · obtain ⟨v, hv, r⟩ := h10 i c hc hn
      exact ⟨v, hv, r.ext x fun a m => ⟨(h20 i a m).1, (h20 i a m).2.1⟩⟩
    · obtain ⟨a1, a2, a3, a4⟩ := h20 i a m
      exact ⟨(x.new a a3).trans a1, (x.omn a a3).trans a2, x.here a a3, a4⟩
  refine ⟨e'.ex, by rw [List.length_set, List.length_set]; exact e'.len, putA As i A, fun j c' hc hn => ?_, fun j a m => ?_, fun j k hjk a m => ?_⟩
  · by_cases hj : j = i
    · subst hj
      have hl : j < ρ.length := by
        have := (List.getElem?_eq_some_iff.mp hc).1
        rwa [List.length_set] at this
      rw [List.getElem?_set_self hl] at hc
      cases hc
      rw [List.getElem?_set_self (by rw [← e'.len]; exact hl)]
      exact ⟨v, rfl, by rw [putA_same]; exact r⟩
    · rw [List.getElem?_set_ne (Ne.symm hj)] at hc
      rw [List.getElem?_set_ne (Ne.symm hj), putA_ne hj]
      exact h1 j c' hc hn
  · by_cases hj : j = i
    · subst hj
      rw [putA_same] at m
      exact ⟨(o a m).1, (o a m).2, r.there a m, e.ex.free (f a m)⟩
    · rw [putA_ne hj] at m
      exact h2 j a m
  · by_cases hj : j = i
    · subst hj
      rw [putA_same] at m
      rw [putA_ne (Ne.symm hjk)]
      exact fun m' => hH k a m' (f a m)
    · rw [putA_ne hj] at m
      by_cases hk : k = i
      · subst hk
        rw [putA_same]
        exact fun m' => hH j a m (f a m')
      · rw [putA_ne hk]
        exact h3 j k hjk a m
/-- an own list changed -/
theorem En.chg {K : Fg} {B : Bs} {F : Hp} {Ω : Om} {H : Hp} {σ : L2.St} {ρ : List C} (e : En K B F Ω H σ ρ) {i : Nat} {c c' : C} (hc : ρ[i]? = some c) (hn : c ≠ .un) :
    ∃ v A, σ[i]? = some (some v) ∧ RC K F Ω H c v A ∧ Ow F Ω A ∧ ∀ F' Ω' H' A', Ext B.F B.Ω B.H F' Ω' H' → Gr F F' → (∀ b, b ∉ A → H b ≠ none → F' b = F b ∧ Ω' b = Ω b ∧ ∀ o, H b = some o → Ω b = none → H' b = some o) → (∀ a I, Ω a = some I → Ω' a = some I) → RC K F' Ω' H' c' v A' → Ow F' Ω' A' → (∀ a ∈ A', a ∈ A ∨ H a = none) →
      En K B F' Ω' H' σ (ρ.set i c') := by
  obtain ⟨As, h1, h2, h3⟩ := e.own
  obtain ⟨v, hv, r⟩ := h1 i c hc hn
  refine ⟨v, As i, hv, r, fun a m => ⟨(h2 i a m).1, (h2 i a m).2.1⟩, fun F' Ω' H' A' x g hk ho r' o' ha => ?_⟩
  have hl : i < ρ.length := (List.getElem?_eq_some_iff.mp hc).1
  refine ⟨x, by rw [List.length_set]; exact e.len, putA As i A', fun j c1 hc1 hn1 => ?_, fun j a m => ?_, fun j k hjk a m => ?_⟩
  · by_cases hj : j = i
    · subst hj
      rw [List.getElem?_set_self hl] at hc1
      cases hc1
      exact ⟨v, hv, by rw [putA_same]; exact r'⟩
    · rw [List.getElem?_set_ne (Ne.symm hj)] at hc1
      rw [putA_ne hj]
      obtain ⟨u, hu, ru⟩ := h1 j c1 hc1 hn1
      refine ⟨u, hu, ru.go g (fun a m o q => ?_) ho⟩
      exact (hk a (h3 j i hj a m) (h2 j a m).2.2.1).2.2 o q (h2 j a m).2.1
  · by_cases hj : j = i
    · subst hj
      rw [putA_same] at m
      refine ⟨(o' a m).1, (o' a m).2, r'.there a m, ?_⟩
      rcases ha a m with z | z
      · exact (h2 j a z).2.2.2
      · exact e.ex.free z
    · rw [putA_ne hj] at m
      obtain ⟨a1, a2, a3, a4⟩ := h2 j a m
      have q := hk a (h3 j i hj a m) a3
      refine ⟨q.1.trans a1, q.2.1.trans a2, ?_, a4⟩
      cases z : H a with
      | none => exact absurd z a3
      | some o => rw [q.2.2 o z a2]; simp
  · by_cases hj : j = i
    · subst hj
      rw [putA_same] at m
      rw [putA_ne (Ne.symm hjk)]
      intro m'
      rcases ha a m with z | z
      · exact h3 j k hjk a z m'
      · exact (h2 k a m').2.2.1 z
    · rw [putA_ne hj] at m
      by_cases hk' : k = i
      · subst hk'
        rw [putA_same]
        intro m'
        rcases ha a m' with z | z
        · exact h3 j k hj a m z
        · exact (h2 j a m).2.2.1 z
      · rw [putA_ne hk']
        exact h3 j k hjk a m
section
variable {X : Cx} {a b e e1 e2 o i value : Expr} {es : List Expr} {pos pos' : Pos} {K : Fg} {st : Stmt} {sts : List Stmt} {t u : TR}
def sNext : TR := fun d ρ => d.nx ρ
def sSeq (t u : TR) : TR := fun d ρ => t { d with nx := u d } ρ
theorem vss_nil : VSs X [] sNext := ⟨fun B => pss_imp pss_nil fun De σ H ⟨F, Ω, ρ, d, en, g, k⟩ => k.nx σ F Ω H ρ (Gr.refl _) en g⟩
theorem vss_cons (h1 : VS X st t) (h2 : VSs X sts u) : VSs X (st :: sts) (sSeq t u) :=
  ⟨fun B => pss_imp (pss_cons (h1.ps B) (h2.pss B)) fun De σ H ⟨F, Ω, ρ, d, en, g, k⟩ => ⟨F, Ω, ρ, { d with nx := u d }, en, g, ⟨fun σ' F' Ω' H' ρ' gr en' g' => ⟨F', Ω', ρ', d, en', g', k.gr gr⟩, k.rt, k.bk, k.ct⟩⟩⟩
theorem vss_one (h1 : VS X st t) : VSs X [st] t := ⟨fun B => pss_one (h1.ps B)⟩
theorem vs_pass : VS X (.Pass pos) sNext := ⟨fun B => ps_imp ps_pass fun De σ H ⟨F, Ω, ρ, d, en, g, k⟩ => k.nx σ F Ω H ρ (Gr.refl _) en g⟩
theorem vs_break : VS X (.Break pos) (fun d ρ => d.bk ρ) := ⟨fun B => ps_imp ps_break fun De σ H ⟨F, Ω, ρ, d, en, g, k⟩ => k.bk σ F Ω H ρ (Gr.refl _) en g⟩
theorem vs_cont : VS X (.Continue pos) (fun d ρ => d.ct ρ) := ⟨fun B => ps_imp ps_continue fun De σ H ⟨F, Ω, ρ, d, en, g, k⟩ => k.ct σ F Ω H ρ (Gr.refl _) en g⟩
theorem vs_never : VS X st (fun _ _ => False) := ⟨fun B => ps_imp ps_never fun De σ H ⟨F, Ω, ρ, d, en, g, k⟩ => g⟩
theorem vss_never : VSs X sts (fun _ _ => False) := ⟨fun B => pss_imp pss_never fun De σ H ⟨F, Ω, ρ, d, en, g, k⟩ => g⟩
theorem vs_ret {te : TC} (h : VC X e te) : VS X (.Return (some e) pos) (fun d ρ => te ρ fun c => fz c d.rt) :=
  ⟨fun B => ps_imp (ps_ret (h.vd.vc.pe B)) fun De σ H ⟨F, Ω, ρ, d, en, g, k⟩ => ⟨F, Ω, ρ, fun c => ∃ x, c = .sh x ∧ d.rt x, en, by
    have m : (fun c => fz c fun x => ∃ x', C.sh x = .sh x' ∧ d.rt x') = fun c => fz c d.rt := by
      funext c
      cases c <;> simp [fz]
    show te ρ fun c => fz c fun x => ∃ x', C.sh x = .sh x' ∧ d.rt x'
    rw [m]
    exact g, fun c v F' Ω' H' A x r o f ⟨y, hy, gy⟩ => by
    subst hy
    exact k.rt v F' Ω' H' y x.sub (en.ex.trans x) r.1 gy⟩⟩
theorem vs_retN : VS X (.Return none pos) (fun d _ => d.rt .none) := ⟨fun B => ps_imp ps_retN fun De σ H ⟨F, Ω, ρ, d, en, g, k⟩ => k.rt .non F Ω H .none (Gr.refl _) en.ex .non g⟩
theorem vs_expr {te : TC} (h : VC X e te) (hs : swapsWith e none pos.line X.env = pure false := by rfl) : VS X (.Expr e pos) (fun d ρ => te ρ fun _ => d.nx ρ) :=
  ⟨fun B => ps_imp (ps_expr (h.pe B) hs) fun De σ H ⟨F, Ω, ρ, d, en, g, k⟩ => ⟨F, Ω, ρ, _, en, g, fun c v F' Ω' H' A x r o f gc => k.nx σ F' Ω' H' ρ x.sub (en.ext x) gc⟩⟩
theorem vs_if {c : Expr} {b1 b2 : List Stmt} {tc : TB} (hc : VB X c tc) (h1 : VSs X b1 t) (h2 : VSs X b2 u) : VS X (.If c b1 b2 pos) (fun d ρ => tc ρ fun b => if b = true then t d ρ else u d ρ) := by
  refine ⟨fun B => ps_imp (ps_if (hc.pt B) (h1.pss B) (h2.pss B)) fun De σ H ⟨F, Ω, ρ, d, en, g, k⟩ => ⟨F, Ω, ρ, _, en, g, fun b F' Ω' H' x gb => ?_⟩⟩
  cases b with
  | true => exact iteT ⟨F', Ω', ρ, d, en.ext x, by simpa using gb, k.gr x.sub⟩
  | false => exact iteF ⟨F', Ω', ρ, d, en.ext x, by simpa using gb, k.gr x.sub⟩
/-- x = e -/
theorem vs_set {n : Nat} {x : Str} {te : TC} (hN : X.N.Nodup) (hi : X.N[n]? = some x) (h : VC X e te) (hx : Loc X.env.scope x := by first | exact Or.inl rfl | exact Or.inr rfl) (hs : swapsWith e (some (.Name x pos')) pos.line X.env = pure false := by rfl) (hf : X.fn x = true ∨ X.env.scope.names.lookup x = some .local := by first | exact .inl rfl | exact .inr rfl) :
    VS X (.Assign [.Name x pos'] e pos) (fun d ρ => te ρ fun c => d.nx (ρ.set n c)) :=
  ⟨fun B => ps_imp (ps_set hN hi hx (h.pe B) hs hf) fun De σ H ⟨F, Ω, ρ, d, en, g, k⟩ => ⟨F, Ω, ρ, _, en, g, fun c v F' Ω' H' A x r o f gc => k.nx _ F' Ω' H' _ x.sub (en.set x r o f n) gc⟩⟩
/-! targets -/
abbrev VG' := D → List C → (List C → Prop) → Prop
/-- only slots of S are changed -/
def Chg (S : List Nat) (σ σ' : L2.St) : Prop := σ'.length = σ.length ∧ ∀ j, j ∉ S → σ'[j]? = σ[j]?
def upG (K : Fg) (B : Bs) (S : List Nat) (g : VG') : TG := fun v σ H Q => ∃ F Ω ρ x G, En K B F Ω H σ ρ ∧ Rep K F v x ∧ g x ρ G ∧ ∀ σ' F' Ω' H' ρ', Gr F F' → Chg S σ σ' → En K B F' Ω' H' σ' ρ' → G ρ' → Q σ' H'
structure VG (X : Cx) (tg : Expr) (S : List Nat) (g : VG') : Prop where
  pg : ∀ B, PG X tg (upG X.K B S g)
abbrev VGs' := List D → List C → (List C → Prop) → Prop
def upGs (K : Fg) (B : Bs) (S : List Nat) (g : VGs') : TGs := fun vs σ H Q => ∃ F Ω ρ xs G, En K B F Ω H σ ρ ∧ Reps K F vs xs ∧ g xs ρ G ∧ ∀ σ' F' Ω' H' ρ', Gr F F' → Chg S σ σ' → En K B F' Ω' H' σ' ρ' → G ρ' → Q σ' H'
structure VGs (X : Cx) (tg : List Expr) (S : List Nat) (g : VGs') : Prop where
  pgs : ∀ B, PGs X tg (upGs X.K B S g)
theorem Chg.set (σ : L2.St) (n : Nat) (v : Option V) : Chg [n] σ (σ.set n v) := ⟨List.length_set, fun j h => List.getElem?_set_ne fun z => h (by rw [z]; exact List.mem_cons_self)⟩
theorem Chg.trans {S T : List Nat} {σ σ1 σ2 : L2.St} (a : Chg S σ σ1) (b : Chg T σ1 σ2) : Chg (S ++ T) σ σ2 := ⟨b.1.trans a.1, fun j h => (b.2 j fun m => h (List.mem_append_right _ m)).trans (a.2 j fun m => h (List.mem_append_left _ m))⟩
theorem pg_imp {tg : Expr} {t t' : TG} (h : PG X tg t) (f : ∀ v σ H Q, t' v σ H Q → t v σ H Q) : PG X tg t' := ⟨fun pins s σ H v u Q I r w => h.run pins s σ H v u Q I r (f v σ H Q w)⟩
theorem pgs_imp {tg : List Expr} {t t' : TGs} (h : PGs X tg t) (f : ∀ v σ H Q, t' v σ H Q → t v σ H Q) : PGs X tg t' := ⟨fun pins s σ H v u Q I r w => h.run pins s σ H v u Q I r (f v σ H Q w)⟩
/-- targets that are names: the heap stays -/
def upN (K : Fg) (B : Bs) (S : List Nat) (g : VG') : TG := fun v σ H Q => ∃ F Ω ρ x G, En K B F Ω H σ ρ ∧ Rep K F v x ∧ g x ρ G ∧ ∀ σ' ρ', Chg S σ σ' → En K B F Ω H σ' ρ' → G ρ' → Q σ' H
structure VN (X : Cx) (tg : Expr) (S : List Nat) (g : VG') : Prop where
  pg : ∀ B, PG X tg (upN X.K B S g)
def upNs (K : Fg) (B : Bs) (S : List Nat) (g : VGs') : TGs := fun vs σ H Q => ∃ F Ω ρ xs G, En K B F Ω H σ ρ ∧ Reps K F vs xs ∧ g xs ρ G ∧ ∀ σ' ρ', Chg S σ σ' → En K B F Ω H σ' ρ' → G ρ' → Q σ' H
structure VNs (X : Cx) (tg : List Expr) (S : List Nat) (g : VGs') : Prop where
  pgs : ∀ B, PGs X tg (upNs X.K B S g)
theorem VN.vg {tg : Expr} {S : List Nat} {g : VG'} (h : VN X tg S g) : VG X tg S g :=
  ⟨fun B => pg_imp (h.pg B) fun v σ H Q ⟨F, Ω, ρ, d, G, en, r, g0, k⟩ => ⟨F, Ω, ρ, d, G, en, r, g0, fun σ' ρ' ch en' g' => k σ' F Ω H ρ' (Gr.refl _) ch en' g'⟩⟩
theorem vn_name {n : Nat} {x : Str} (hN : X.N.Nodup) (hi : X.N[n]? = some x) (hx : Loc X.env.scope x := by first | exact Or.inl rfl | exact Or.inr rfl) (hf : X.fn x = true ∨ X.env.scope.names.lookup x = some .local := by first | exact .inl rfl | exact .inr rfl) : VN X (.Name x pos) [n] (fun d ρ G => G (ρ.set n (.sh d))) :=
  ⟨fun B => pg_imp (pg_name hN hi hx hf) fun v σ H Q ⟨F, Ω, ρ, d, G, en, r, g, k⟩ => k _ _ (Chg.set σ n _) (en.set (Ext.refl en.wd) (c := .sh d) ⟨r, rfl⟩ ow_nil (fun _ m => nomatch m) n) g⟩
theorem vns_nil : VNs X [] [] (fun xs ρ G => xs = [] ∧ G ρ) := ⟨fun B => pgs_imp pgs_nil fun vs σ H Q ⟨F, Ω, ρ, xs, G, en, r, g, k⟩ => by
  obtain ⟨rfl, g⟩ := g
  cases r
  exact ⟨rfl, k σ ρ ⟨rfl, fun _ _ => rfl⟩ en g⟩⟩
def gConsV (g : VG') (gs : VGs') : VGs' := fun xs ρ G => match xs with
  | x :: xs => g x ρ fun ρ' => gs xs ρ' G
  | [] => False
theorem vns_cons {g : VG'} {gs : VGs'} {S T : List Nat} (h1 : VN X e S g) (h2 : VNs X es T gs) (hs : (assignEach (e :: es) X.env).map (·.2) = assign e X.env :: (assignEach es X.env).map (·.2) := by rfl) : VNs X (e :: es) (S ++ T) (gConsV g gs) :=
  ⟨fun B => pgs_imp (pgs_cons (h1.pg B) (h2.pgs B) hs) fun vs σ H Q ⟨F, Ω, ρ, xs, G, en, r, g0, k⟩ => by
    cases r with
    | nil => exact g0.elim
    | cons r rs => exact ⟨_, _, rfl, F, Ω, ρ, _, _, en, r, g0, fun σ1 ρ1 ch en1 g1 => ⟨F, Ω, ρ1, _, G, en1, rs, g1, fun σ2 ρ2 ch2 en2 g2 => k σ2 ρ2 (ch.trans ch2) en2 g2⟩⟩⟩
def gTupV (n : Nat) (gs : VGs') : VG' := fun x ρ G => match x with
  | .tuple xs => xs.length = n ∧ gs xs ρ G
  | _ => False
theorem vn_tup {k n : Nat} {gs : VGs'} {S : List Nat} (h : VNs X es S gs) (hc : X.calm = true := by rfl) (hn : (assignEach es X.env).length = n := by rfl) (hst : (assignEach es X.env).findIdx? (·.1) = none := by rfl) : VN X (.Tuple es k pos) S (gTupV n gs) :=
  ⟨fun B => pg_imp (pg_tup hc (h.pgs B) hn hst) fun v σ H Q ⟨F, Ω, ρ, x, G, en, r, g0, k0⟩ => by
    unfold gTupV at g0
    split at g0
    · rename_i xs
      cases r with
      | tup e q => exact ⟨_, _, rfl, en.wd.sub.sqT e, by rw [q.length]; exact g0.1, F, Ω, ρ, xs, G, en, q, g0.2, k0⟩
    · exact g0.elim⟩
/-- targets = e -/
theorem vs_asg {tg : Expr} {te : TC} {g : VG'} {S : List Nat} (he : VC X e te) (hg : VG X tg S g) (hs : swapsWithSole [tg] e pos.line X.env = pure false := by rfl) (hw : swappedStores [tg] e X.env = pure none := by rfl) (h1 : (assignEach [tg] X.env).map (·.2) = [assign tg X.env] := by rfl) :
    VS X (.Assign [tg] e pos) (fun d ρ => te ρ fun c => fz c fun x => g x ρ d.nx) := by
  refine ⟨fun B => ps_imp (ps_asg (he.vd.vc.pe B) (hg.pg B) hs hw h1) fun De σ H ⟨F, Ω, ρ, d, en, g0, k⟩ => ⟨F, Ω, ρ, fun c => ∃ x, c = .sh x ∧ g x ρ d.nx, en, ?_, fun c v F' Ω' H' A x r o f ⟨y, hy, gy⟩ => ?_⟩⟩
  · have m : (fun c => fz c fun x => ∃ x', C.sh x = .sh x' ∧ g x' ρ d.nx) = fun c => fz c fun x => g x ρ d.nx := by
      funext c
      cases c <;> simp [fz]
    show te ρ fun c => fz c fun x => ∃ x', C.sh x = .sh x' ∧ g x' ρ d.nx
    rw [m]
    exact g0
  · subst hy
    exact ⟨F', Ω', ρ, y, d.nx, en.ext x, r.1, gy, fun σ2 F2 Ω2 H2 ρ2 gr2 _ en2 g2 => k.nx σ2 F2 Ω2 H2 ρ2 (x.sub.trans gr2) en2 g2⟩
/-- freezing a slot -/
def frC : C → C
  | .ol ds => .sh (.list ds)
  | .oll dss => .sh (.list (dss.map .list))
  | .od kvs => .sh (.dict (kvs.map fun p => (kD p.1, p.2)))
  | .odT kvs => .sh (.dict (kvs.map fun p => (kTD p.1, p.2)))
  | c => c
def frz (ρ : List C) (i : Nat) : List C := match ρ[i]? with
  | some c => ρ.set i (frC c)
  | none => ρ
theorem En.frz {B : Bs} {F : Hp} {Ω : Om} {H : Hp} {σ : L2.St} {ρ : List C} (e : En K B F Ω H σ ρ) (i : Nat) : ∃ F', Gr F F' ∧ En K B F' Ω H σ (frz ρ i) := by
  unfold TL.frz
  split
  · rename_i c hc
    by_cases hu : c = .un
    · subst hu
      refine ⟨F, Gr.refl _, ?_⟩
      have z : ρ.set i C.un = ρ := by
        obtain ⟨hl, he⟩ := List.getElem?_eq_some_iff.mp hc
        rw [← he, List.set_getElem_self]
      show En K B F Ω H σ (ρ.set i C.un)
      rw [z]
      exact e
    · obtain ⟨v, A, hv, r, o, fin⟩ := e.chg (c' := frC c) hc hu
      have key : ∀ {k : D → Prop} {d0 : D}, fz c k → (∀ d, k d → d = d0) → frC c = .sh d0 → ∃ F', Gr F F' ∧ En K B F' Ω H σ (ρ.set i (frC c)) := by
        intro k d0 hz hk hf
        obtain ⟨F', d, gr, w, rd, kd, off⟩ := freeze e.wd r o hz
        cases hk d kd
        refine ⟨F', gr, fin F' Ω H [] ⟨e.ex.sub.trans gr, fun a ha => ?_, e.ex.keep, e.ex.here, e.ex.omg, e.ex.omn, w⟩ gr (fun b hb _ => ⟨off b hb, rfl, fun o h _ => h⟩) (fun _ _ h => h) (by rw [hf]; exact ⟨rd, rfl⟩) ow_nil (fun _ m => nomatch m)⟩
        have hA : a ∉ A := fun m => by
          obtain ⟨As, h1, h2, h3⟩ := e.own
          obtain ⟨v', hv', r'⟩ := h1 i c hc hu
          rw [hv] at hv'
          cases hv'
          -- the owned addresses are those of the slot
          have same : A = As i := by
            cases c with
            | un => exact absurd rfl hu
            | sh d => rw [r.2, r'.2]
            | ol ds =>
              obtain ⟨a1, vs1, rfl, rfl, _⟩ := r
              obtain ⟨a2, vs2, e2, h2', _⟩ := r'
              cases e2
              rw [h2']
            | oll ds =>
              obtain ⟨a1, vs1, as1, rfl, rfl, e1, q1, _⟩ := r
              obtain ⟨a2, vs2, as2, e2, h2', e3, q3, _⟩ := r'
              cases e2
              rw [e1] at e3
              cases e3
              rw [h2']
              have uq : ∀ {vs : List V} {dss dss' : List (List D)} {as as' : List Addr}, RLL K F H vs dss as → RLL K F H vs dss' as' → as = as' := by
                intro vs dss dss' as as' q q'
                induction q generalizing dss' as' with
                | nil => cases q'; rfl
                | cons _ _ _ ih =>
                  cases q' with
                  | cons _ _ t' => rw [ih t']
              rw [uq q1 q3]
            | od ds =>
              obtain ⟨a1, vs1, rfl, rfl, _⟩ := r
              obtain ⟨a2, vs2, e2, h2', _⟩ := r'
              cases e2
              rw [h2']
            | odT ds =>
              obtain ⟨a1, vs1, rfl, rfl, _⟩ := r
              obtain ⟨a2, vs2, e2, h2', _⟩ := r'
              cases e2
              rw [h2']
            | mo I =>
              obtain ⟨a1, rfl, _, rfl⟩ := r
              obtain ⟨a2, e2, _, h2'⟩ := r'
              rw [h2']
          rw [same] at m
          exact ha (h2 i a m).2.2.2
        rw [off a hA]
        exact e.ex.new a ha
      cases c with
      | un => exact absurd rfl hu
      | sh d => exact key (k := fun x => x = d) (d0 := d) rfl (fun _ h => h) rfl
      | ol ds => exact key (k := fun x => x = .list ds) (d0 := .list ds) rfl (fun _ h => h) rfl
      | oll ds => exact key (k := fun x => x = .list (ds.map .list)) (d0 := .list (ds.map .list)) rfl (fun _ h => h) rfl
      | od ds => exact key (k := fun x => x = .dict (ds.map fun p => (kD p.1, p.2))) (d0 := .dict (ds.map fun p => (kD p.1, p.2))) rfl (fun _ h => h) rfl
      | odT ds => exact key (k := fun x => x = .dict (ds.map fun p => (kTD p.1, p.2))) (d0 := .dict (ds.map fun p => (kTD p.1, p.2))) rfl (fun _ h => h) rfl
      | mo I =>
        refine ⟨F, Gr.refl _, ?_⟩
        have z : ρ.set i (C.mo I) = ρ := by
          obtain ⟨hl, he⟩ := List.getElem?_eq_some_iff.mp hc
          rw [← he, List.set_getElem_self]
        show En K B F Ω H σ (ρ.set i (C.mo I))
        rw [z]
        exact e
  · exact ⟨F, Gr.refl _, e⟩
theorem vs_frz (i : Nat) (h : VS X st t) : VS X st (fun d ρ => t d (frz ρ i)) :=
  ⟨fun B => ps_imp (h.ps B) fun De σ H ⟨F, Ω, ρ, d, en, g, k⟩ => by
    obtain ⟨F', gr, en'⟩ := en.frz i
    exact ⟨F', Ω, _, d, en', g, k.gr gr⟩⟩
end
end TL
namespace TL
open PySem PySem.Spec PyProof.Rows L2
section
variable {X : Cx} {a b e e1 e2 o : Expr} {es : List Expr} {pos pos' apos cpos : Pos} {K : Fg} {st : Stmt} {sts : List Stmt} {t u : TR}
/-! ### what one's own lists suffer -/
/-- writing at an owned address -/
theorem Ext.put {B : Bs} {F : Hp} {Ω : Om} {H : Hp} (x : Ext B.F B.Ω B.H F Ω H) {a : Addr} {o : HO} (h0 : B.H a = none) (hf : F a = none) (ho : Ω a = none) : Ext B.F B.Ω B.H F Ω (upd H a o) where
  sub := x.sub
  new := x.new
  keep := fun b u e w => by rw [upd_ne (ne_of_none e h0)]; exact x.keep b u e w
  here := fun b e => by
    by_cases z : b = a
    · rw [z, upd_same]; simp
    · rw [upd_ne z]; exact x.here b e
  omg := x.omg
  omn := x.omn
  wd := ⟨fun b u e => by rw [upd_ne (ne_of_none e hf)]; exact x.wd.sub b u e, fun b I e => by
    have z : b ≠ a := fun z => by rw [z, ho] at e; cases e
    rw [upd_ne z]
    exact x.wd.om b I e⟩
theorem En.own1 {B : Bs} {F : Hp} {Ω : Om} {H : Hp} {σ : L2.St} {ρ : List C} (e : En K B F Ω H σ ρ) {i : Nat} {ds : List D} (hc : ρ[i]? = some (.ol ds)) :
    ∃ a vs, σ[i]? = some (some (.ref a)) ∧ H a = some (.lst vs) ∧ Reps K F vs ds ∧ ∀ vs' ds', Reps K F vs' ds' → En K B F Ω (upd H a (.lst vs')) σ (ρ.set i (.ol ds')) := by
  obtain ⟨As, h1, h2, h3⟩ := e.own
  obtain ⟨v0, hv0, r0⟩ := h1 i _ hc (by simp)
  obtain ⟨v, A, hv, r, ow, fin⟩ := e.chg hc (c' := .un) (by simp)
  obtain ⟨a, vs, rfl, hA, ha, q⟩ := r0
  have ia := h2 i a (by rw [hA]; exact List.mem_cons_self)
  refine ⟨a, vs, hv0, ha, q, fun vs' ds' r' => ?_⟩
  obtain ⟨v2, A2, hv2, r2, ow2, fin2⟩ := e.chg hc (c' := .ol ds') (by simp)
  rw [hv0] at hv2
  cases hv2
  obtain ⟨a2, vs2, e2, hA2, ha2, q2⟩ := r2
  cases e2
  refine fin2 F Ω _ [a] (e.ex.put ia.2.2.2 ia.1 ia.2.1) (Gr.refl _) (fun b hb hh => ⟨rfl, rfl, fun o h _ => ?_⟩) (fun _ _ h => h) ⟨a, vs', rfl, rfl, upd_same, r'⟩ (fun c m => by rw [List.mem_singleton.mp m]; exact ⟨ia.1, ia.2.1⟩) (fun c m => .inl (by rw [hA2]; exact m))
  rw [upd_ne (fun z => hb (by rw [hA2, z]; exact List.mem_cons_self))]
  exact h
def olAt (ρ : List C) (i : Nat) (G : List D → Prop) : Prop := match ρ[i]? with
  | some (.ol ds) => G ds
  | _ => False
theorem olAt_get {ρ : List C} {i : Nat} {G : List D → Prop} (h : olAt ρ i G) : ∃ ds, ρ[i]? = some (.ol ds) ∧ G ds := by
  unfold olAt at h
  split at h
  · exact ⟨_, by assumption, h⟩
  · exact h.elim
/-- x.append(e) -/
theorem vs_append (i : Nat) {te : TC} (hv : PE X o (tVar i)) (he : VC X e te) (hbase : attributeBase o "append" X.env (eval o X.env) = eval o X.env := by rfl)
    (h2 : ((backTo cpos (starEach [e] X.env)).all (fun x => !x.fst) && ((backToKw cpos (keywordEach [] X.env)).all fun x => x.fst.isSome) && decide ([e].length + ([] : List Keyword).length + (if ([] : List Keyword).isEmpty = true then 0 else 1) < 30)) = true := by rfl)
    (hl : (apos.endLine == cpos.line) = true := by rfl) (hs : starEach [e] X.env = (false, eval e X.env) :: starEach [] X.env := by rfl) (hx : swapsWith (.Call (.Attribute o "append" apos) [e] [] cpos) none pos.line X.env = pure false := by rfl) :
    VS X (.Expr (.Call (.Attribute o "append" apos) [e] [] cpos) pos) (fun d ρ => olAt ρ i fun _ => te ρ fun c => fz c fun y => olAt ρ i fun ds => ds.length < sizeLine ∧ d.nx (ρ.set i (.ol (ds ++ [y])))) := by
  refine ⟨fun B => ps_imp (ps_expr (pe_bm PySem.F.plainAttrs_list PySem.F.slot_list_append PySem.F.type_list_append mt_append hv (pa_cons (he.vd.vc.pe B) pa_nil hs) hbase h2 hl hs) hx) fun De σ H ⟨F, Ω, ρ, d, en, g, k⟩ => ?_⟩
  obtain ⟨ds0, hc, g⟩ := olAt_get g
  obtain ⟨a, vs, hσ, ha, q, fin⟩ := en.own1 hc
  refine ⟨.ref a, hσ, .inl ⟨rfl, vs, .inl (.inl ha)⟩, F, Ω, ρ, fun c => ∃ y, c = .sh y ∧ olAt ρ i fun ds => ds.length < sizeLine ∧ d.nx (ρ.set i (.ol (ds ++ [y]))), en, ?_, fun c v F' Ω' H' A x r ow f ⟨y, hy, gy⟩ => ?_⟩
  · have m : (fun c => fz c fun x => ∃ x', C.sh x = .sh x' ∧ olAt ρ i fun ds => ds.length < sizeLine ∧ d.nx (ρ.set i (.ol (ds ++ [x'])))) = fun c => fz c fun x => olAt ρ i fun ds => ds.length < sizeLine ∧ d.nx (ρ.set i (.ol (ds ++ [x]))) := by
      funext c
      cases c <;> simp [fz]
    show te ρ fun c => fz c fun x => ∃ x', C.sh x = .sh x' ∧ olAt ρ i fun ds => ds.length < sizeLine ∧ d.nx (ρ.set i (.ol (ds ++ [x'])))
    rw [m]
    exact g
  · subst hy
    obtain ⟨ds, hc', hlen, g2⟩ := olAt_get gy
    obtain ⟨a', vs', hσ', ha', q', fin'⟩ := (en.ext x).own1 hc'
    rw [hσ] at hσ'
    cases hσ'
    exact ⟨a, vs', v, rfl, rfl, ha', by rw [q'.length]; exact hlen, k.nx σ F' Ω' _ _ x.sub (fin' (vs' ++ [v]) (ds ++ [y]) (q'.append (.cons r.1 .nil))) g2⟩
/-! ### walks -/
structure Walks (K : Fg) (B : Bs) (J : It) (F : Hp) (ds : List D) : Prop where
  stop : ∀ F' Ω H i, Gr F F' → Ext B.F B.Ω B.H F' Ω H → ds.length ≤ i → J.stop i H
  go : ∀ F' Ω H i, Gr F F' → Ext B.F B.Ω B.H F' Ω H → i < ds.length → J.go i H
  yld : ∀ F' Ω H i x H1 d, Gr F F' → Ext B.F B.Ω B.H F' Ω H → ds[i]? = some d → J.yld i H x H1 → ∃ F1, Ext F' Ω H F1 Ω H1 ∧ Rep K F1 x d
def upI (K : Fg) (B : Bs) (ti : TDs) : TI := fun σ H R => ∃ F Ω ρ G, En K B F Ω H σ ρ ∧ ti ρ G ∧ ∀ ds J F' Ω' H', Ext F Ω H F' Ω' H' → Walks K B J F' ds → G ds → R J H'
structure VI (X : Cx) (tg iter : Expr) (ti : TDs) : Prop where
  pi : ∀ B, PI X tg iter (upI X.K B ti)
theorem pi_imp {tg iter : Expr} {t t' : TI} (h : PI X tg iter t) (f : ∀ σ H R, t' σ H R → t σ H R) : PI X tg iter t' := ⟨fun pins s σ H R I w => h.run pins s σ H R I (f σ H R w)⟩
theorem pi_or {tg iter : Expr} {t t' : TI} (h : PI X tg iter t) (h' : PI X tg iter t') : PI X tg iter (fun σ H R => t σ H R ∨ t' σ H R) := ⟨fun pins s σ H R I w => w.elim (h.run pins s σ H R I) (h'.run pins s σ H R I)⟩
theorem walks_list {B : Bs} {F : Hp} {a : Addr} {vs : List V} {ds : List D} (e : F a = some (.lst vs)) (q : Reps K F vs ds) : Walks K B (Itl K a) F ds where
  stop := fun F' Ω H i g x hi => ⟨vs, .inl (.inl (x.wd.sub.lst (g _ _ e))), by rw [q.length]; exact hi⟩
  go := fun F' Ω H i g x hi => ⟨vs, vs[i]'(by rw [q.length]; exact hi), .inl (.inl (x.wd.sub.lst (g _ _ e))), by simp [q.length, hi]⟩
  yld := fun F' Ω H i x H1 d g ex hd ⟨hh, hy⟩ => by
    subst hh
    obtain ⟨v, hv, rv⟩ := q.get hd
    have := hy vs (.inl (.inl (ex.wd.sub.lst (g _ _ e))))
    rw [hv] at this
    cases this
    exact ⟨F', Ext.refl ex.wd, rv.gr g⟩
theorem walks_tup {B : Bs} {F : Hp} {a : Addr} {vs : List V} {ds : List D} (e : SqT K F a vs) (q : Reps K F vs ds) : Walks K B (Itt K a) F ds where
  stop := fun F' Ω H i g x hi => ⟨vs, x.wd.sub.sqT (g.sqT e), by rw [q.length]; exact hi⟩
  go := fun F' Ω H i g x hi => ⟨vs, vs[i]'(by rw [q.length]; exact hi), x.wd.sub.sqT (g.sqT e), by simp [q.length, hi]⟩
  yld := fun F' Ω H i x H1 d g ex hd ⟨hh, hy⟩ => by
    subst hh
    obtain ⟨v, hv, rv⟩ := q.get hd
    have := hy vs (ex.wd.sub.sqT (g.sqT e))
    rw [hv] at this
    cases this
    exact ⟨F', Ext.refl ex.wd, rv.gr g⟩
/-- over a list, a tuple -/
theorem pi_seq {l tg : Expr} {tl : TE} (hl : PE X l tl) : PI X tg l (fun σ H R => tl σ H fun x H1 => ∃ a, x = .ref a ∧ (((∃ xs, SqL X.K H1 a xs) ∧ R (Itl X.K a) H1) ∨ ((∃ xs, SqT X.K H1 a xs) ∧ R (Itt X.K a) H1))) := by
  refine ⟨fun pins s σ H R I h => ?_⟩
  refine thn (hl.run pins s σ H _ I h) fun v s1 ⟨x, H1, I1, r1, q1⟩ => ?_
  obtain ⟨a, e, q⟩ := q1
  subst e
  cases r1
  rcases q with ⟨⟨xs, hq⟩, q⟩ | ⟨⟨xs, hq⟩, q⟩
  · obtain ⟨its, rv, p, hz⟩ := I1.list hq
    refine wpAny_pyIter_list p.isList ?_
    refine ⟨s1.heap.objs.size, [s1.heap.objs.size], _, _, H1, rfl, I1.kept (t' := s1.toks) fun b o e => Heap.get?_push_of_some _ e, turn_list a _, ⟨_, Heap.get?_push_size _ rfl, rfl, rfl⟩, fun b hb => ?_, q⟩
    have e : b = s1.heap.objs.size := by simpa using hb
    subst e
    exact I1.fpOk (Nat.le_refl _) (I1.hok.fresh (Nat.le_refl _))
  · obtain ⟨its, rv, p, hz⟩ := I1.tuple hq
    refine wpAny_pyIter_tuple (show s1.heap.IsTuple a its.toArray from p) ?_
    refine ⟨s1.heap.objs.size, [s1.heap.objs.size], _, _, H1, rfl, I1.kept (t' := s1.toks) fun b o e => Heap.get?_push_of_some _ e, turn_tuple a _, ⟨_, Heap.get?_push_size _ rfl, rfl, rfl⟩, fun b hb => ?_, q⟩
    have e : b = s1.heap.objs.size := by simpa using hb
    subst e
    exact I1.fpOk (Nat.le_refl _) (I1.hok.fresh (Nat.le_refl _))
def sqC (d : D) (G : List D → Prop) : Prop := match d with
  | .list ds => G ds
  | .tuple ds => G ds
  | _ => False
/-- a data reading, its end told by an equation -/
theorem fz_eq {te : TC} {ρ : List C} {k : D → Prop} (h : te ρ fun c => fz c k) : te ρ fun c => fz c fun x => ∃ x', C.sh x = .sh x' ∧ k x' := by
  have m : (fun c => fz c fun x => ∃ x', C.sh x = .sh x' ∧ k x') = fun c => fz c k := by
    funext c
    cases c <;> simp [fz]
  rw [m]
  exact h
theorem vi_seq {tg : Expr} {te : TC} (h : VC X e te) : VI X tg e (fun ρ G => te ρ fun c => fz c fun d => sqC d G) := by
  refine ⟨fun B => pi_imp (pi_seq (h.vd.vc.pe B)) fun σ H R ⟨F, Ω, ρ, G, en, g, k⟩ => ⟨F, Ω, ρ, fun c => ∃ d, c = .sh d ∧ sqC d G, en, fz_eq g, fun c v F' Ω' H' A x r o f ⟨d, hd, gd⟩ => ?_⟩⟩
  subst hd
  obtain ⟨r, _⟩ := r
  unfold sqC at gd
  split at gd
  · cases r with
    | lst e q => exact ⟨_, rfl, .inl ⟨⟨_, .inl (.inl (x.wd.sub.lst e))⟩, k _ _ F' Ω' H' x (walks_list e q) gd⟩⟩
  · cases r with
    | tup e q => exact ⟨_, rfl, .inr ⟨⟨_, x.wd.sub.sqT e⟩, k _ _ F' Ω' H' x (walks_tup e q) gd⟩⟩
  · exact gd.elim
/-- a range -/
def rngD (lo : Int) (n : Nat) : List D := (List.range n).map fun i => .int (lo + (i : Nat))
theorem walks_rng {B : Bs} {F : Hp} {lo : Int} {n : Nat} : Walks K B (Itr lo n) F (rngD lo n) where
  stop := fun F' Ω H i g x hi => show n ≤ i by simpa [rngD] using hi
  go := fun F' Ω H i g x hi => show i < n by simpa [rngD] using hi
  yld := fun F' Ω H i x H1 d g ex hd ⟨hh, hy⟩ => by
    subst hh hy
    have hi : i < n := by
      have := (List.getElem?_eq_some_iff.mp hd).1
      simpa [rngD] using this
    have e : d = .int (lo + i) := by
      have : (rngD lo n)[i]? = some (.int (lo + i)) := by simp [rngD, hi]
      rw [this] at hd
      exact (Option.some.inj hd).symm
    subst e
    exact ⟨F', Ext.refl ex.wd, .int _⟩
theorem vi_rng1 {tg : Expr} {p : Pos} {ta : TC} (ha : SE X a ta) (hg : Gl X "range") (hm : X.mg "range" = none) (hs : starEach [a] X.env = [(false, eval a X.env)] := by rfl) : VI X tg (.Call (.Name "range" p) [a] [] pos) (fun ρ G => ta ρ fun c => inC c fun j => -(2 ^ 62) ≤ j ∧ j < 2 ^ 62 ∧ G (rngD 0 j.toNat)) := by
  refine ⟨fun B => pi_imp (pi_range1 hg hm (pa_cons (ha.pe B) pa_nil hs) hs) fun σ H R ⟨F, Ω, ρ, G, en, g, k⟩ => ⟨F, Ω, ρ, _, en, g, fun c v F' Ω' H' A x r o gc => ?_⟩⟩
  unfold inC at gc
  split at gc
  · obtain ⟨r, _⟩ := r
    cases r
    exact ⟨_, rfl, gc.1, gc.2.1, k _ _ F' Ω' H' x walks_rng gc.2.2⟩
  · exact gc.elim
theorem vi_rng2 {tg : Expr} {p : Pos} {ta tb : TC} (ha : SE X a ta) (hb : SE X b tb) (hg : Gl X "range") (hm : X.mg "range" = none) (hs : starEach [a, b] X.env = [(false, eval a X.env), (false, eval b X.env)] := by rfl) (hs2 : starEach [b] X.env = [(false, eval b X.env)] := by rfl) :
    VI X tg (.Call (.Name "range" p) [a, b] [] pos) (fun ρ G => ta ρ fun c => tb ρ fun c2 => inC c fun i => inC c2 fun j => (-(2 ^ 62) ≤ i ∧ i < 2 ^ 62 ∧ -(2 ^ 62) ≤ j ∧ j < 2 ^ 62) ∧ G (rngD i (j - i).toNat)) := by
  refine ⟨fun B => pi_imp (pi_range2 hg hm (pa_cons (ha.pe B) (pa_cons (hb.pe B) pa_nil hs2) (by rw [hs, hs2])) hs hs2) fun σ H R ⟨F, Ω, ρ, G, en, g, k⟩ => ⟨F, Ω, ρ, _, en, g, fun c v F1 Ω1 H1 A1 x1 r1 o1 g1 => ⟨F1, Ω1, ρ, _, en.ext x1, g1, fun c2 v2 F2 Ω2 H2 A2 x2 r2 o2 g2 => ?_⟩⟩⟩
  unfold inC at g2
  split at g2
  · obtain ⟨r1, _⟩ := r1
    cases r1
    split at g2
    · obtain ⟨r2, _⟩ := r2
      cases r2
      exact ⟨_, _, rfl, g2.1, k _ _ F2 Ω2 H2 (x1.trans x2) walks_rng g2.2⟩
    · exact g2.elim
  · exact g2.elim
/-- a range downwards -/
def dwnD (hi : Int) (n : Nat) : List D := (List.range n).map fun i => .int (hi - (i : Nat))
theorem vi_dwn {tg : Expr} {p : Pos} {ta tb tc : TC} {c : Expr} (ha : SE X a ta) (hb : SE X b tb) (hc : SE X c tc) (hg : Gl X "range") (hm : X.mg "range" = none) (hs : starEach [a, b, c] X.env = (false, eval a X.env) :: starEach [b, c] X.env := by rfl)
    (hs2 : starEach [b, c] X.env = (false, eval b X.env) :: starEach [c] X.env := by rfl) (hs3 : starEach [c] X.env = (false, eval c X.env) :: starEach [] X.env := by rfl) (hpl : (backTo pos (starEach [b, c] X.env)).any (·.1) = false := by rfl) :
    VI X tg (.Call (.Name "range" p) [a, b, c] [] pos) (fun ρ G => ta ρ fun c1 => tb ρ fun c2 => tc ρ fun c3 => inC c1 fun i => inC c2 fun j => inC c3 fun z => z = -1 ∧ (-(2 ^ 62) ≤ i ∧ i < 2 ^ 62 ∧ -(2 ^ 62) ≤ j ∧ j < 2 ^ 62) ∧ G (dwnD i (i - j).toNat)) := by
  refine ⟨fun B => pi_imp (pi_range3 hg hm (pa_cons (ha.pe B) (pa_cons (hb.pe B) (pa_cons (hc.pe B) pa_nil hs3) hs2) hs) hs hpl) fun σ H R ⟨F, Ω, ρ, G, en, g, k⟩ => ⟨F, Ω, ρ, _, en, g, fun c v F1 Ω1 H1 A1 x1 r1 o1 g1 => ⟨F1, Ω1, ρ, _, en.ext x1, g1, fun c2 v2 F2 Ω2 H2 A2 x2 r2 o2 g2 => ⟨F2, Ω2, ρ, _, (en.ext x1).ext x2, g2, fun c3 v3 F3 Ω3 H3 A3 x3 r3 o3 g3 => ?_⟩⟩⟩⟩
  unfold inC at g3
  split at g3
  · obtain ⟨r1, _⟩ := r1
    cases r1
    split at g3
    · obtain ⟨r2, _⟩ := r2
      cases r2
      split at g3
      · obtain ⟨r3, _⟩ := r3
        cases r3
        obtain ⟨hz, hb, gg⟩ := g3
        subst hz
        rename_i i _ _ j _ _ _
        refine ⟨_, _, _, _, rfl, RgC.neg hb.1 hb.2.1 hb.2.2.1 hb.2.2.2, k _ _ F3 Ω3 H3 ((x1.trans x2).trans x3) ⟨fun F' Ω H m g x hi => (by have q : (dwnD i (i - j).toNat).length = (i - j).toNat := (by simp [dwnD]); rw [q] at hi; exact hi), fun F' Ω H m g x hi => (by have q : (dwnD i (i - j).toNat).length = (i - j).toNat := (by simp [dwnD]); rw [q] at hi; exact hi), fun F' Ω H m x H1 d g ex hd ⟨hh, hy⟩ => ?_⟩ gg⟩
        subst hh hy
        have hm : m < (i - j).toNat := by
          have := (List.getElem?_eq_some_iff.mp hd).1
          simpa [dwnD] using this
        have e : d = .int (i - m) := by
          have : (dwnD i (i - j).toNat)[m]? = some (.int (i - m)) := by simp [dwnD, hm]
          rw [this] at hd
          exact (Option.some.inj hd).symm
        subst e
        refine ⟨F', Ext.refl ex.wd, ?_⟩
        rw [show i + (m : Int) * -1 = i - m by omega]
        exact .int _
      · exact g3.elim
    · exact g3.elim
  · exact g3.elim
/-- enumerate over a list -/
def enuD : Nat → List D → List D
  | _, [] => []
  | n, d :: ds => .tuple [.int (n : Nat), d] :: enuD (n + 1) ds
theorem enuD_len : ∀ (n : Nat) (ds : List D), (enuD n ds).length = ds.length
  | _, [] => rfl
  | n, _ :: ds => congrArg (· + 1) (enuD_len (n + 1) ds)
theorem enuD_get : ∀ (n : Nat) (ds : List D) (i : Nat), (enuD n ds)[i]? = ds[i]?.map fun d => .tuple [.int ((n + i : Nat) : Int), d]
  | _, [], _ => by simp [enuD]
  | n, d :: ds, 0 => by simp [enuD]
  | n, d :: ds, i + 1 => by
    show (enuD (n + 1) ds)[i]? = ds[i]?.map _
    rw [enuD_get (n + 1) ds i, show n + 1 + i = n + (i + 1) by omega]
theorem walks_enu {B : Bs} {F : Hp} {a : Addr} {vs : List V} {ds : List D} (e : F a = some (.lst vs)) (q : Reps K F vs ds) : Walks K B (Ite K a) F (enuD 0 ds) where
  stop := fun F' Ω H i g x hi => ⟨vs, .inl (.inl (x.wd.sub.lst (g _ _ e))), by rw [q.length, ← enuD_len 0 ds]; exact hi⟩
  go := fun F' Ω H i g x hi => ⟨vs, vs[i]'(by rw [q.length, ← enuD_len 0 ds]; exact hi), .inl (.inl (x.wd.sub.lst (g _ _ e))), by
    have : i < vs.length := by rw [q.length, ← enuD_len 0 ds]; exact hi
    simp [this]⟩
  yld := fun F' Ω H i x H1 d g ex hd ⟨T, y, hx, nT, hh, hy⟩ => by
    subst hx hh
    rw [enuD_get] at hd
    cases hz : ds[i]? with
    | none => rw [hz] at hd; cases hd
    | some z =>
      rw [hz] at hd
      cases hd
      obtain ⟨v, hv, rv⟩ := q.get hz
      have := hy vs (.inl (.inl (ex.wd.sub.lst (g _ _ e))))
      rw [hv] at this
      cases this
      have x2 := Ext.laidF (o := .tup [.int (i : Nat), y]) ex.wd nT
      refine ⟨_, x2, .tup (.inl (.inl upd_same)) (.cons ?_ (.cons ((rv.gr g).gr x2.sub) .nil))⟩
      rw [Nat.zero_add]
      exact .int _
def lsD (d : D) (G : List D → Prop) : Prop := match d with
  | .list ds => G ds
  | _ => False
theorem vi_enu {te : TC} {elts : List Expr} {kk : Nat} {tpos p : Pos} (h : VC X e te) (hg : Gl X "enumerate") (hm : X.mg "enumerate" = none) (hs : starEach [e] X.env = [(false, eval e X.env)] := by rfl) :
    VI X (.Tuple elts kk tpos) (.Call (.Name "enumerate" p) [e] [] pos) (fun ρ G => te ρ fun c => fz c fun d => lsD d fun ds => G (enuD 0 ds)) := by
  refine ⟨fun B => pi_imp (pi_enum hg hm (pa_cons (h.vd.vc.pe B) pa_nil hs) hs) fun σ H R ⟨F, Ω, ρ, G, en, g, k⟩ => ⟨F, Ω, ρ, fun c => ∃ d, c = .sh d ∧ lsD d fun ds => G (enuD 0 ds), en, fz_eq g, fun c v F' Ω' H' A x r o f ⟨d, hd, gd⟩ => ?_⟩⟩
  subst hd
  obtain ⟨r, _⟩ := r
  unfold lsD at gd
  split at gd
  · cases r with
    | lst e q => exact ⟨_, _, rfl, .inl (.inl (x.wd.sub.lst e)), k _ _ F' Ω' H' x (walks_enu e q) gd⟩
  · exact gd.elim
/-! ### walks of a comprehension: over what is lent, too -/
def upJ (K : Fg) (B : Bs) (ti : TDs) : TI := fun σ H R => ∃ F Ω ρ G, En K B F Ω H σ ρ ∧ ti ρ G ∧ ∀ ds J F' Ω' H', Ext F Ω H F' Ω' H' → Walks K ⟨F', Ω', H'⟩ J F' ds → G ds → R J H'
structure VJ (X : Cx) (tg iter : Expr) (ti : TDs) : Prop where
  pi : ∀ B, PI X tg iter (upJ X.K B ti)
theorem Walks.low {B : Bs} {J : It} {F : Hp} {Ω : Om} {H : Hp} {ds : List D} (x : Ext B.F B.Ω B.H F Ω H) (h : Walks K B J F ds) : Walks K ⟨F, Ω, H⟩ J F ds :=
  ⟨fun F' Ω' H' i g e => h.stop F' Ω' H' i g (x.trans e), fun F' Ω' H' i g e => h.go F' Ω' H' i g (x.trans e), fun F' Ω' H' i y H1 d g e => h.yld F' Ω' H' i y H1 d g (x.trans e)⟩
theorem VI.vj {tg iter : Expr} {ti : TDs} (h : VI X tg iter ti) : VJ X tg iter ti :=
  ⟨fun B => pi_imp (h.pi B) fun σ H R ⟨F, Ω, ρ, G, en, g, k⟩ => ⟨F, Ω, ρ, G, en, g, fun ds J F' Ω' H' x w => k ds J F' Ω' H' x (w.low (en.ex.trans x))⟩⟩
theorem lsC_lent {F H : Hp} {Ω : Om} {c : C} {v : V} {A : List Addr} {ds : List D} (w : Wd F Ω H) (r : RC K F Ω H c v A) (o : Ow F Ω A) (h : lsC c = some ds) : ∃ a vs, v = .ref a ∧ H a = some (.lst vs) ∧ Reps K F vs ds ∧ Ω a = none := by
  cases c with
  | sh d =>
    cases d with
    | list es =>
      cases h
      obtain ⟨r, _⟩ := r
      cases r with
      | lst e q =>
        refine ⟨_, _, rfl, w.sub.lst e, q, ?_⟩
        cases z : Ω _ with
        | none => rfl
        | some I =>
          rw [(w.om _ I z).1] at e
          cases e
    | _ => cases h
  | ol es =>
    cases h
    obtain ⟨a, vs, rfl, rfl, e, q⟩ := r
    exact ⟨a, vs, rfl, e, q, (o a List.mem_cons_self).2⟩
  | _ => cases h
theorem walks_lent {F : Hp} {Ω : Om} {H : Hp} {a : Addr} {vs : List V} {ds : List D} (e : H a = some (.lst vs)) (q : Reps K F vs ds) (o : Ω a = none) : Walks K ⟨F, Ω, H⟩ (Itl K a) F ds where
  stop := fun F' Ω' H' i g x hi => ⟨vs, .inl (.inl (x.keep _ _ e o)), by rw [q.length]; exact hi⟩
  go := fun F' Ω' H' i g x hi => ⟨vs, vs[i]'(by rw [q.length]; exact hi), .inl (.inl (x.keep _ _ e o)), by simp [q.length, hi]⟩
  yld := fun F' Ω' H' i x H1 d g ex hd ⟨hh, hy⟩ => by
    subst hh
    obtain ⟨v, hv, rv⟩ := q.get hd
    have := hy vs (.inl (.inl (ex.keep _ _ e o)))
    rw [hv] at this
    cases this
    exact ⟨F', Ext.refl ex.wd, rv.gr g⟩
theorem walksE_lent {F : Hp} {Ω : Om} {H : Hp} {a : Addr} {vs : List V} {ds : List D} (e : H a = some (.lst vs)) (q : Reps K F vs ds) (o : Ω a = none) : Walks K ⟨F, Ω, H⟩ (Ite K a) F (enuD 0 ds) where
  stop := fun F' Ω' H' i g x hi => ⟨vs, .inl (.inl (x.keep _ _ e o)), by rw [q.length, ← enuD_len 0 ds]; exact hi⟩
  go := fun F' Ω' H' i g x hi => ⟨vs, vs[i]'(by rw [q.length, ← enuD_len 0 ds]; exact hi), .inl (.inl (x.keep _ _ e o)), by
    have : i < vs.length := by rw [q.length, ← enuD_len 0 ds]; exact hi
    simp [this]⟩
  yld := fun F' Ω' H' i x H1 d g ex hd ⟨T, y, hx, nT, hh, hy⟩ => by
    subst hx hh
    rw [enuD_get] at hd
    cases hz : ds[i]? with
    | none => rw [hz] at hd; cases hd
    | some z =>
      rw [hz] at hd
      cases hd
      obtain ⟨v, hv, rv⟩ := q.get hz
      have := hy vs (.inl (.inl (ex.keep _ _ e o)))
      rw [hv] at this
      cases this
      have x2 := Ext.laidF (o := .tup [.int (i : Nat), y]) ex.wd nT
      refine ⟨_, x2, .tup (.inl (.inl upd_same)) (.cons ?_ (.cons ((rv.gr g).gr x2.sub) .nil))⟩
      rw [Nat.zero_add]
      exact .int _
def sqL (c : C) (G : List D → Prop) : Prop := match c with
  | .sh (.list ds) => G ds
  | .ol ds => G ds
  | .sh (.tuple ds) => G ds
  | _ => False
theorem vj_seq {tg : Expr} {te : TC} (h : SE X e te) : VJ X tg e (fun ρ G => te ρ fun c => sqL c G) := by
  refine ⟨fun B => pi_imp (pi_seq (h.pe B)) fun σ H R ⟨F, Ω, ρ, G, en, g, k⟩ => ⟨F, Ω, ρ, _, en, g, fun c v F' Ω' H' A x r o gd => ?_⟩⟩
  unfold sqL at gd
  split at gd
  · rename_i ds
    obtain ⟨a, vs, rfl, e, q, w⟩ := lsC_lent (ds := ds) x.wd r o rfl
    exact ⟨_, rfl, .inl ⟨⟨_, .inl (.inl e)⟩, k _ _ F' Ω' H' x (walks_lent e q w) gd⟩⟩
  · rename_i ds
    obtain ⟨a, vs, rfl, e, q, w⟩ := lsC_lent (ds := ds) x.wd r o rfl
    exact ⟨_, rfl, .inl ⟨⟨_, .inl (.inl e)⟩, k _ _ F' Ω' H' x (walks_lent e q w) gd⟩⟩
  · obtain ⟨a, vs, rfl, e, _, q⟩ := tup_get x.wd r
    exact ⟨_, rfl, .inr ⟨⟨_, x.wd.sub.sqT e⟩, k _ _ F' Ω' H' x ((walks_tup (B := ⟨F', Ω', H'⟩) e q)) gd⟩⟩
  · exact gd.elim
def lsL (c : C) (G : List D → Prop) : Prop := match c with
  | .sh (.list ds) => G ds
  | .ol ds => G ds
  | _ => False
theorem vj_enu {te : TC} {elts : List Expr} {kk : Nat} {tpos p : Pos} (h : SE X e te) (hg : Gl X "enumerate") (hm : X.mg "enumerate" = none) (hs : starEach [e] X.env = [(false, eval e X.env)] := by rfl) :
    VJ X (.Tuple elts kk tpos) (.Call (.Name "enumerate" p) [e] [] pos) (fun ρ G => te ρ fun c => lsL c fun ds => G (enuD 0 ds)) := by
  refine ⟨fun B => pi_imp (pi_enum hg hm (pa_cons (h.pe B) pa_nil hs) hs) fun σ H R ⟨F, Ω, ρ, G, en, g, k⟩ => ⟨F, Ω, ρ, _, en, g, fun c v F' Ω' H' A x r o gd => ?_⟩⟩
  unfold lsL at gd
  split at gd
  · rename_i ds
    obtain ⟨a, vs, rfl, e, q, w⟩ := lsC_lent (ds := ds) x.wd r o rfl
    exact ⟨_, _, rfl, .inl (.inl e), k _ _ F' Ω' H' x (walksE_lent e q w) gd⟩
  · rename_i ds
    obtain ⟨a, vs, rfl, e, q, w⟩ := lsC_lent (ds := ds) x.wd r o rfl
    exact ⟨_, _, rfl, .inl (.inl e), k _ _ F' Ω' H' x (walksE_lent e q w) gd⟩
  · exact gd.elim
/-! ### for, while -/
def sFor (ti : TDs) (g : VG') (tb : TR) : TR := fun d ρ => ti ρ fun ds => ∃ Iv : Nat → List C → Prop, Iv 0 ρ ∧ (∀ i x ρ', ds[i]? = some x → Iv i ρ' → g x ρ' fun ρ2 => tb { d with nx := Iv (i + 1), ct := Iv (i + 1), bk := d.nx } ρ2) ∧ ∀ ρ', Iv ds.length ρ' → d.nx ρ'
theorem vs_for {tg iter : Expr} {body : List Stmt} {ti : TDs} {g : VG'} {tb : TR} {S : List Nat} (hi : VI X tg iter ti) (hg : VG X tg S g) (hb : VSs X body tb) (hp : PassesOwn (model X.prog X.w) X.A X.env X.xe := by exact PassesOwn.never) (hc : X.calm = true := by rfl) (hs : ∀ x, foldedSetIterable iter X.env x = pure x := by intro _; rfl) :
    VS X (.For tg iter body [] pos) (sFor ti g tb) := by
  refine ⟨fun B => ps_imp (ps_for hp hc (hi.pi B) (hg.pg B) (hb.pss B) hs) fun De σ H ⟨F, Ω, ρ, d, en, g0, k⟩ => ⟨F, Ω, ρ, _, en, g0, fun ds J F1 Ω1 H1 x1 wk ⟨Iv, h0, h1, h2⟩ => ?_⟩⟩
  refine ⟨fun i m σ' H' => m = ds.length - i ∧ i ≤ ds.length ∧ ∃ F' Ω' ρ', Gr F1 F' ∧ En X.K B F' Ω' H' σ' ρ' ∧ Iv i ρ', ⟨ds.length, by simp, Nat.zero_le _, F1, Ω1, ρ, Gr.refl _, en.ext x1, h0⟩, ?_⟩
  rintro i m σ' H' ⟨rfl, hi, F', Ω', ρ', gr, en', iv⟩
  by_cases hlt : i < ds.length
  · refine .inr ⟨wk.go F' Ω' H' i gr en'.ex hlt, fun σ2 H2 => ∃ F2 Ω2 ρ2, Gr F1 F2 ∧ En X.K B F2 Ω2 H2 σ2 ρ2 ∧ Iv (i + 1) ρ2, fun σ2 H2 q => ⟨ds.length - (i + 1), by omega, rfl, hlt, q⟩, fun x H3 hy => ?_⟩
    obtain ⟨F3, x3, r3⟩ := wk.yld F' Ω' H' i x H3 ds[i] gr en'.ex (by simp [hlt]) hy
    have gr3 := gr.trans x3.sub
    refine ⟨F3, Ω', ρ', ds[i], _, en'.ext x3, r3, h1 i ds[i] ρ' (by simp [hlt]) iv, fun σ4 F4 Ω4 H4 ρ4 gr4 _ en4 g4 => ⟨F4, Ω4, ρ4, _, en4, g4, ?_⟩⟩
    have grx := x1.sub.trans (gr3.trans gr4)
    exact ⟨fun σ5 F5 Ω5 H5 ρ5 gr5 en5 g5 => ⟨F5, Ω5, ρ5, (gr3.trans gr4).trans gr5, en5, g5⟩, fun v F5 Ω5 H5 y gr5 => k.rt v F5 Ω5 H5 y (grx.trans gr5), fun σ5 F5 Ω5 H5 ρ5 gr5 en5 g5 => k.nx σ5 F5 Ω5 H5 ρ5 (grx.trans gr5) en5 g5,
      fun σ5 F5 Ω5 H5 ρ5 gr5 en5 g5 => ⟨F5, Ω5, ρ5, (gr3.trans gr4).trans gr5, en5, g5⟩⟩
  · have e : i = ds.length := by omega
    subst e
    exact .inl ⟨wk.stop F' Ω' H' _ gr en'.ex (Nat.le_refl _), k.nx σ' F' Ω' H' ρ' (x1.sub.trans gr) en' (h2 ρ' iv)⟩
end
end TL
namespace TL
open PySem PySem.Spec PyProof.Rows L2
theorem sz {n : Nat} (h : n ≤ 16777216) : n ≤ sizeLine := by rw [sizeLine_eq]; exact h
theorem sz' {n : Nat} (h : n < 16777216) : n < sizeLine := by rw [sizeLine_eq]; exact h
section
variable {X : Cx} {a b e e1 e2 o elt iter tg : Expr} {es ifs : List Expr} {pos pos' apos cpos : Pos} {K : Fg} {st : Stmt} {sts : List Stmt} {t u : TR}
/-! ### while -/
def sWhile (tc : TB) (tb : TR) : TR := fun d ρ => ∃ W : Nat → List C → Prop, (∃ m, W m ρ) ∧ ∀ m ρ', W m ρ' → tc ρ' fun b => if b = true then tb { d with nx := fun ρ2 => ∃ m', m' < m ∧ W m' ρ2, ct := fun ρ2 => ∃ m', m' < m ∧ W m' ρ2, bk := d.nx } ρ' else d.nx ρ'
theorem vs_while {c : Expr} {body : List Stmt} {tc : TB} {tb : TR} (hc : VB X c tc) (hb : VSs X body tb) (hp : PassesOwn (model X.prog X.w) X.A X.env X.xe := by exact PassesOwn.never) : VS X (.While c body [] pos) (sWhile tc tb) := by
  refine ⟨fun B => ps_imp (ps_while hp (hc.pt B) (hb.pss B)) fun De σ H ⟨F, Ω, ρ, d, en, ⟨W, ⟨m0, h0⟩, h1⟩, k⟩ => ?_⟩
  refine ⟨fun m σ' H' => ∃ F' Ω' ρ', Gr F F' ∧ En X.K B F' Ω' H' σ' ρ' ∧ W m ρ', ⟨m0, F, Ω, ρ, Gr.refl _, en, h0⟩, ?_⟩
  rintro m σ' H' ⟨F', Ω', ρ', gr, en', w⟩
  refine ⟨F', Ω', ρ', _, en', h1 m ρ' w, fun b F2 Ω2 H2 x2 g2 => ?_⟩
  have gr2 := gr.trans x2.sub
  cases b with
  | true =>
    refine iteT ⟨fun σ3 H3 => ∃ m', m' < m ∧ ∃ F' Ω' ρ', Gr F F' ∧ En X.K B F' Ω' H3 σ3 ρ' ∧ W m' ρ', fun σ3 H3 q => q, F2, Ω2, ρ', _, en'.ext x2, by simpa using g2, ?_⟩
    exact ⟨fun σ5 F5 Ω5 H5 ρ5 gr5 en5 ⟨m', hm, w5⟩ => ⟨m', hm, F5, Ω5, ρ5, gr2.trans gr5, en5, w5⟩, fun v F5 Ω5 H5 y gr5 => k.rt v F5 Ω5 H5 y (gr2.trans gr5), fun σ5 F5 Ω5 H5 ρ5 gr5 en5 g5 => k.nx σ5 F5 Ω5 H5 ρ5 (gr2.trans gr5) en5 g5,
      fun σ5 F5 Ω5 H5 ρ5 gr5 en5 ⟨m', hm, w5⟩ => ⟨m', hm, F5, Ω5, ρ5, gr2.trans gr5, en5, w5⟩⟩
  | false => exact iteF (k.nx σ' F2 Ω2 H2 ρ' gr2 (en'.ext x2) (by simpa using g2))
/-! ### comprehensions -/
def wipeC (ρ : List C) : List Nat → List C
  | [] => ρ
  | v :: vs => (wipeC ρ vs).set v .un
theorem En.wipe1 {B : Bs} {F : Hp} {Ω : Om} {H : Hp} {σ : L2.St} {ρ : List C} (e : En K B F Ω H σ ρ) (v : Nat) : En K B F Ω H (σ.set v none) (ρ.set v .un) := by
  obtain ⟨As, h1, h2, h3⟩ := e.own
  refine ⟨e.ex, by rw [List.length_set, List.length_set]; exact e.len, As, fun i c hc hn => ?_, h2, h3⟩
  by_cases hi : i = v
  · subst hi
    have hl := (List.getElem?_eq_some_iff.mp hc).1
    rw [List.length_set] at hl
    rw [List.getElem?_set_self hl] at hc
    cases hc
    exact absurd rfl hn
  · rw [List.getElem?_set_ne (Ne.symm hi)] at hc
    rw [List.getElem?_set_ne (Ne.symm hi)]
    exact h1 i c hc hn
theorem En.wipe {B : Bs} {F : Hp} {Ω : Om} {H : Hp} {σ : L2.St} {ρ : List C} (e : En K B F Ω H σ ρ) : ∀ vs : List Nat, En K B F Ω H (L2.wipe σ vs) (wipeC ρ vs)
  | [] => e
  | v :: vs => (En.wipe e vs).wipe1 v
theorem wipe_get {σ : L2.St} {i : Nat} : ∀ {vs : List Nat}, (L2.wipe σ vs)[i]? = if i ∈ vs then (if i < σ.length then some none else none) else σ[i]?
  | [] => by simp [L2.wipe]
  | v :: vs => by
    unfold L2.wipe
    by_cases hi : v = i
    · subst hi
      rw [if_pos List.mem_cons_self]
      by_cases hl : v < σ.length
      · rw [if_pos hl, List.getElem?_set_self (by rw [wipe_length]; exact hl)]
      · rw [if_neg hl, List.getElem?_eq_none]
        rw [List.length_set, wipe_length]
        omega
    · rw [List.getElem?_set_ne hi, wipe_get]
      by_cases hm : i ∈ vs
      · rw [if_pos hm, if_pos (List.mem_cons_of_mem _ hm)]
      · rw [if_neg hm, if_neg (by simp [hm, Ne.symm hi])]
theorem wipe_chg {σ σ2 : L2.St} {S vs : List Nat} (h : Chg S (L2.wipe σ vs) σ2) (hs : ∀ i ∈ S, i ∈ vs) : L2.wipe σ2 vs = L2.wipe σ vs := by
  apply List.ext_getElem?
  intro i
  have hl : σ2.length = σ.length := h.1.trans (wipe_length σ vs)
  rw [wipe_get, wipe_get]
  by_cases hm : i ∈ vs
  · rw [if_pos hm, if_pos hm, hl]
  · rw [if_neg hm, if_neg hm, h.2 i (fun m => hm (hs i m)), wipe_get, if_neg hm]
/-- what a comprehension gathers -/
def lcRun (g : VG') (tt : TB) (te : TC) (ρ : List C) : List D → (List D → Prop) → Prop
  | [], k => k []
  | x :: r, k => g x ρ fun ρ1 => tt ρ1 fun b => if b = true then te ρ1 fun c => fz c fun y => lcRun g tt te ρ r fun ys => k (y :: ys) else lcRun g tt te ρ r k
structure VTs (X : Cx) (ifs : List Expr) (tt : TB) : Prop where
  pts : ∀ B, PTs X ifs (upB X.K B tt)
theorem pts_imp {t t' : TT} (h : PTs X ifs t) (f : ∀ σ H Q, t' σ H Q → t σ H Q) : PTs X ifs t' := ⟨fun pins s σ H Q I w => h.run pins s σ H Q I (f σ H Q w)⟩
theorem vts_nil : VTs X [] (fun _ G => G true) := ⟨fun B => pts_imp pts_nil fun σ H Q ⟨F, Ω, ρ, G, en, g, k⟩ => k true F Ω H (Ext.refl en.wd) g⟩
theorem vts_one {c : Expr} {t : TB} (h : VB X c t) : VTs X [c] t := ⟨fun B => pts_one (h.pt B)⟩
def cLc (ti : TDs) (g : VG') (tt : TB) (te : TC) (vs : List Nat) : TC := fun ρ G => ti ρ fun ds => ds.length ≤ sizeLine ∧ lcRun g tt te (wipeC ρ vs) ds fun ys => G (.ol ys)
theorem lc_up {B : Bs} {ti : TDs} {g : VG'} {tt : TB} {te : TC} {vs S : List Nat} (hS : ∀ i ∈ S, i ∈ vs) {σ : L2.St} {H : Hp} {Q : VK} (h : upC K B (cLc ti g tt te vs) σ H Q) :
    tLc (upJ K B ti) (upN K B S g) (upB K B tt) (upC K B fun ρ G => te ρ fun c => fz c fun d => G (.sh d)) vs σ H Q := by
  obtain ⟨F, Ω, ρ, G, en, g0, k⟩ := h
  refine ⟨F, Ω, ρ, _, en, g0, fun ds J F1 Ω1 H1 x1 wk ⟨hz, run⟩ D nD => ?_⟩
  have w1 := x1.wd
  have fD : F1 D = none := w1.sub.none nD
  have oD : Ω1 D = none := w1.om_none nD
  refine ⟨fun i m H' => m = ds.length - i ∧ i ≤ ds.length ∧ ∃ F' Ω' acc ys, Ext F1 Ω1 H1 F' Ω' H' ∧ F' D = none ∧ Ω' D = none ∧ H' D = some (.lst acc) ∧ acc.length ≤ i ∧ Reps K F' acc ys ∧ lcRun g tt te (wipeC ρ vs) (ds.drop i) fun zs => G (.ol (ys ++ zs)), ⟨ds.length, by simp, Nat.zero_le _, F1, Ω1, [], [], Ext.laid w1 nD, fD, oD, upd_same, Nat.le_refl _, .nil, by simpa using run⟩, ?_⟩
  rintro i m H' ⟨rfl, hi, F', Ω', acc, ys, x', f', o', hD, hl, q, run'⟩
  have en' := (en.ext x1).ext x'
  by_cases hlt : i < ds.length
  · refine .inr ⟨wk.go F' Ω' H' i x'.sub x' hlt, fun H3 => ∃ F' Ω' acc ys, Ext F1 Ω1 H1 F' Ω' H3 ∧ F' D = none ∧ Ω' D = none ∧ H3 D = some (.lst acc) ∧ acc.length ≤ i + 1 ∧ Reps K F' acc ys ∧ lcRun g tt te (wipeC ρ vs) (ds.drop (i + 1)) fun zs => G (.ol (ys ++ zs)), fun H3 q3 => ⟨ds.length - (i + 1), by omega, rfl, hlt, q3⟩, fun x H3 hy => ?_⟩
    obtain ⟨F3, x3, r3⟩ := wk.yld F' Ω' H' i x H3 ds[i] x'.sub x' (by simp [hlt]) hy
    rw [List.drop_eq_getElem_cons hlt] at run'
    have nz : H' D ≠ none := by rw [hD]; simp
    refine ⟨F3, Ω', wipeC ρ vs, ds[i], _, (en'.ext x3).wipe vs, r3, run', fun σ4 ρ4 ch4 en4 g4 => ⟨wipe_chg ch4 hS, ?_⟩⟩
    refine ⟨F3, Ω', ρ4, _, en4, g4, fun b F5 Ω5 H5 x5 g5 => ?_⟩
    have xx := x'.trans (x3.trans x5)
    have d5 : ∀ {F6 : Hp} {Ω6 : Om} {H6 : Hp}, Ext F' Ω' H' F6 Ω6 H6 → F6 D = none ∧ Ω6 D = none ∧ H6 D = some (.lst acc) := fun x6 => ⟨(x6.new D nz).trans f', (x6.omn D nz).trans o', x6.keep D _ hD o'⟩
    cases b with
    | false =>
      obtain ⟨a1, a2, a3⟩ := d5 (x3.trans x5)
      exact iteF ⟨F5, Ω5, acc, ys, xx, a1, a2, a3, by omega, q.gr (x3.trans x5).sub, by simpa using g5⟩
    | true =>
      refine iteT ⟨F5, Ω5, ρ4, fun c => ∃ y, c = .sh y ∧ lcRun g tt te (wipeC ρ vs) (ds.drop (i + 1)) fun zs => G (.ol (ys ++ y :: zs)), en4.ext x5, fz_eq (k := fun y => lcRun g tt te (wipeC ρ vs) (ds.drop (i + 1)) fun zs => G (.ol (ys ++ y :: zs))) (by simpa using g5), fun c v F6 Ω6 H6 A6 x6 r6 o6 f6 ⟨y, hy, gy⟩ => ?_⟩
      subst hy
      obtain ⟨a1, a2, a3⟩ := d5 ((x3.trans x5).trans x6)
      refine ⟨acc, a3, Nat.lt_of_lt_of_le (Nat.lt_of_le_of_lt hl hlt) hz, F6, Ω6, acc ++ [v], ys ++ [y], ?_, a1, a2, upd_same, by simp; omega, (q.gr ((x3.trans x5).trans x6).sub).append (.cons r6.1 .nil), ?_⟩
      · have z := Ext.put (B := ⟨F1, Ω1, H1⟩) (o := .lst (acc ++ [v])) (xx.trans x6) nD a1 a2
        exact z
      · have m : (fun zs => G (.ol (ys ++ [y] ++ zs))) = fun zs => G (.ol (ys ++ y :: zs)) := by
          funext zs
          rw [List.append_assoc]
          rfl
        rw [m]
        exact gy
  · have e : i = ds.length := by omega
    subst e
    rw [List.drop_length] at run'
    refine .inl ⟨wk.stop F' Ω' H' _ x'.sub x' (Nat.le_refl _), k (.ol ys) _ F' Ω' H' [D] (x1.trans x') ⟨D, acc, rfl, rfl, hD, q⟩ (fun c m => by rw [List.mem_singleton.mp m]; exact ⟨f', o'⟩) (fun c m => by rw [List.mem_singleton.mp m]; exact x1.free nD) ?_⟩
    simpa [lcRun] using run'
theorem vc_lc {scope : Scope} {own : List (Str × Nat)} {ti : TDs} {g : VG'} {tt : TB} {te : TC} {S : List Nat} (hN : X.N.Nodup) (hi : VJ X tg iter ti) (ok : blkC X.N X.env.scope scope own = true)
    (hg : ∀ (s : Shared) (H : Hp) (C : Addr) (cl : List (Str × Addr)) (fp : List Addr), VN (X.blk s H scope (compEnvC scope cl C X.env) fp) tg S g)
    (ht : ∀ (s : Shared) (H : Hp) (C : Addr) (cl : List (Str × Addr)) (fp : List Addr), VTs (X.blk s H scope (compEnvC scope cl C X.env) fp) ifs tt)
    (he : ∀ (s : Shared) (H : Hp) (C : Addr) (cl : List (Str × Addr)) (fp : List Addr), VC (X.blk s H scope (compEnvC scope cl C X.env) fp) elt te)
    (hS : ∀ i ∈ S, i ∈ own.map (·.2) := by decide) (hc : X.calm = true := by rfl) (hs : ∀ x, foldedSetIterable iter X.env x = pure x := by intro _; rfl) :
    VC X (.ListComp elt [⟨tg, iter, ifs, 0⟩] scope pos) (cLc ti g tt te (own.map (·.2))) :=
  ⟨fun B => pe_imp (pe_lc hc hN (hi.pi B) (blkOk_by ok) (fun s H C cl fp => (hg s H C cl fp).pg B) (fun s H C cl fp => (ht s H C cl fp).pts B) (fun s H C cl fp => (he s H C cl fp).vd.vc.pe B) hs) fun σ H Q h => lc_up hS h⟩
theorem vs_setLc {n : Nat} {y : Str} {py spos : Pos} {scope : Scope} {own : List (Str × Nat)} {ti : TDs} {g : VG'} {tt : TB} {te : TC} {S : List Nat} (hN : X.N.Nodup) (hy : X.N[n]? = some y) (hyl : X.env.scope.names.lookup y = some .local)
    (hsw : swapsWith (.ListComp elt [⟨tg, iter, ifs, 0⟩] scope pos) (some (.Name y py)) spos.line X.env = pure true) (hi : VJ X tg iter ti) (ok : blkC X.N X.env.scope scope own = true)
    (hg : ∀ (s : Shared) (H : Hp) (C : Addr) (cl : List (Str × Addr)) (fp : List Addr), VN (X.blk s H scope (compEnvC scope cl C X.env) fp) tg S g)
    (ht : ∀ (s : Shared) (H : Hp) (C : Addr) (cl : List (Str × Addr)) (fp : List Addr), VTs (X.blk s H scope (compEnvC scope cl C X.env) fp) ifs tt)
    (he : ∀ (s : Shared) (H : Hp) (C : Addr) (cl : List (Str × Addr)) (fp : List Addr), VC (X.blk s H scope (compEnvC scope cl C X.env) fp) elt te)
    (hS : ∀ i ∈ S, i ∈ own.map (·.2) := by decide) (hc : X.calm = true := by rfl) (hs : ∀ x, foldedSetIterable iter X.env x = pure x := by intro _; rfl) :
    VS X (.Assign [.Name y py] (.ListComp elt [⟨tg, iter, ifs, 0⟩] scope pos) spos) (fun d ρ => cLc ti g tt te (own.map (·.2)) ρ fun c => d.nx (ρ.set n c)) :=
  ⟨fun B => ps_imp (ps_setLc hc hN hy hyl hsw (hi.pi B) (blkOk_by ok) (fun s H C cl fp => (hg s H C cl fp).pg B) (fun s H C cl fp => (ht s H C cl fp).pts B) (fun s H C cl fp => (he s H C cl fp).vd.vc.pe B) hs) fun De σ H ⟨F, Ω, ρ, d, en, g0, k⟩ =>
    lc_up hS ⟨F, Ω, ρ, _, en, g0, fun c v F' Ω' H' A x r o f gc => k.nx _ F' Ω' H' _ x.sub (en.set x r o f n) gc⟩⟩
/-! ### defs -/
theorem RCs.length {F : Hp} {Ω : Om} {H : Hp} : ∀ {cs : List C} {vs : List V}, RCs K F Ω H cs vs → cs.length = vs.length
  | [], [], _ => rfl
  | _ :: _, _ :: _, ⟨_, _, t⟩ => congrArg (· + 1) (RCs.length t)
theorem RCs.get {F : Hp} {Ω : Om} {H : Hp} : ∀ {cs : List C} {vs : List V} {i : Nat} {c : C}, RCs K F Ω H cs vs → cs[i]? = some c → ∃ v, vs[i]? = some v ∧ RC K F Ω H c v []
  | [], [], _, _, _, e => by simp at e
  | _ :: _, _ :: _, 0, _, ⟨_, r, _⟩, e => by simp at e; subst e; exact ⟨_, rfl, r⟩
  | _ :: _, _ :: _, i + 1, _, ⟨_, _, t⟩, e => by
    obtain ⟨v, h1, h2⟩ := RCs.get (i := i) t (by simpa using e)
    exact ⟨v, by simpa using h1, h2⟩
def stC (N : List Str) (cs : List C) : List C := cs ++ List.replicate (N.length - cs.length) .un
theorem start_en {N : List Str} {F : Hp} {Ω : Om} {H : Hp} {cs : List C} {vs : List V} (w : Wd F Ω H) (r : RCs K F Ω H cs vs) : En K ⟨F, Ω, H⟩ F Ω H (L2.start N vs) (stC N cs) := by
  have hl := r.length
  refine ⟨Ext.refl w, by simp [stC, L2.start, hl], fun _ => [], fun i c hc hn => ?_, fun i a (m : a ∈ ([] : List Addr)) => (nomatch m), fun i j _ a (m : a ∈ ([] : List Addr)) => (nomatch m)⟩
  unfold stC at hc
  unfold L2.start
  by_cases hi : i < cs.length
  · rw [List.getElem?_append_left hi] at hc
    obtain ⟨v, hv, rv⟩ := r.get hc
    refine ⟨v, ?_, rv⟩
    rw [List.getElem?_append_left (by simpa [← hl] using hi), List.getElem?_map, hv]
    rfl
  · rw [List.getElem?_append_right (by omega), List.getElem?_replicate] at hc
    split at hc
    · cases hc; exact absurd rfl hn
    · cases hc
theorem fun_ok {P : Program} {w : World} {mg : Str → Option Value} {base : Heap} {x qual : Str} {f : Addr} {fd : FuncData} {N ps : List Str} {k : Nat} {fT : Prom} (F : Fun K x qual st f fd) (S : FnScope N ps (defScope st)) (len : ∀ cs Q, fT cs Q → cs.length = ps.length)
    (hbody : ∀ (cdv : Value) (A : Around) (outer : List Env) (s : Shared) (H : Hp) (E : XK), Room k (A.deeper (envOfC qual (defScope st) s.heap.objs.size f cdv)) →
      ∃ tr, VSs (cxOf CX0 P w K mg base N qual (defScope st) f cdv A outer s H E).nox (defBody st) tr ∧ ∀ cs Q, fT cs Q → tr ⟨fun _ => Q .none, Q, fun _ => False, fun _ => False⟩ (stC N cs)) : FnOk P w K mg base CX0 (k + 1) f fd ps (spT K fT) := by
  refine F.ok S (fun vs H Q E ⟨F0, Ω, cs, G, w, r, h, _⟩ => by rw [← r.length]; exact len cs G h) (fun cdv A outer s H vs Q E hr h => ?_)
  obtain ⟨F0, Ω, cs, G, w, r, h, kk⟩ := h
  obtain ⟨tr, hv, hp⟩ := hbody cdv A outer s H E hr
  refine ⟨_, hv.pss ⟨F0, Ω, H⟩, F0, Ω, _, _, start_en w r, hp cs G h, ⟨fun σ' F' Ω' H' ρ' gr en g => kk .none .non F' Ω' H' en.ex .non g, fun v F' Ω' H' y gr ex ry g => kk y v F' Ω' H' ex ry g, fun _ _ _ _ _ _ _ z => z.elim, fun _ _ _ _ _ _ _ z => z.elim⟩⟩
end
end TL
namespace TL
open PySem PySem.Spec PyProof.Rows L2
/-- a def of the text, as it stands behind the top -/
def Df (K : Fg) (mg : Str → Option Value) (x : String) (st : Stmt) (ps : List Str) : Prop := ∃ f fd, Fun K x x st f fd ∧ mg x = some (.ref f) ∧ Binds K fd ps []
/-- a def that keeps a promise, as a caller needs it -/
structure CalR (P : Program) (w : World) (K : Fg) (mg : Str → Option Value) (base : Heap) (x : Str) (k : Nat) (ps : List Str) (sp : Sp) : Prop where
  ex : ∃ f fd, FnOk P w K mg base CX0 k f fd ps sp ∧ mg x = some (.ref f) ∧ PySem.W.keepIn K (.ref f) = true ∧ Binds K fd ps []
abbrev Cal (P : Program) (w : World) (K : Fg) (mg : Str → Option Value) (base : Heap) (x : Str) (k : Nat) (ps : List Str) (fT : Prom) : Prop := CalR P w K mg base x k ps (spT K fT)
theorem CalR.mono {P : Program} {w : World} {K : Fg} {mg : Str → Option Value} {base : Heap} {x : Str} {k j : Nat} {ps : List Str} {sp : Sp} (c : CalR P w K mg base x k ps sp) (h : k ≤ j) : CalR P w K mg base x j ps sp :=
  ⟨let ⟨f, fd, F, m, kp, b⟩ := c.ex; ⟨f, fd, F.mono h, m, kp, b⟩⟩
theorem CalR.imp {P : Program} {w : World} {K : Fg} {mg : Str → Option Value} {base : Heap} {x : Str} {k : Nat} {ps : List Str} {sp sp' : Sp} (c : CalR P w K mg base x k ps sp) (h : ∀ vs H Q E, sp' vs H Q E → sp vs H Q E) : CalR P w K mg base x k ps sp' :=
  ⟨let ⟨f, fd, F, m, kp, b⟩ := c.ex; ⟨f, fd, F.imp h, m, kp, b⟩⟩
section
variable {X : Cx} {a b e : Expr} {es : List Expr} {pos : Pos} {K : Fg}
theorem vc_cal {k : Nat} {ps : List Str} {fT : Prom} {x : Str} {p : Pos} {tl : TL} (c : Cal X.prog X.w X.K X.mg X.base x k ps fT) (hr : Room k X.A) (ha : VA X (e :: es) tl) (hg : Gl X x := by rfl) (hdb : (x == ("__debug__" : Str)) = false := by decide)
    (he : starEach (e :: es) X.env = (false, eval e X.env) :: starEach es X.env := by rfl) (hpl : (backTo pos (starEach es X.env)).any (·.1) = false := by rfl) : VC X (.Call (.Name x p) (e :: es) [] pos) (fun ρ G => tl ρ fun cs => fT cs fun d => G (.sh d)) :=
  let ⟨_, _, F, m, kp, b⟩ := c.ex; vc_call (CX := CX0) F hr hg m kp b ha hdb he hpl
theorem vc_cal0 {k : Nat} {ps : List Str} {fT : Prom} {x : Str} {p : Pos} (c : Cal X.prog X.w X.K X.mg X.base x k ps fT) (hr : Room k X.A) (hg : Gl X x := by rfl) (hdb : (x == ("__debug__" : Str)) = false := by decide) : VC X (.Call (.Name x p) [] [] pos) (fun ρ G => fT [] fun d => G (.sh d)) :=
  let ⟨_, _, F, m, kp, b⟩ := c.ex; vc_call0 F hr hg m kp b hdb
/-- the same, by the layer below -/
theorem pe_cal {k : Nat} {ps : List Str} {sp : Sp} {x : Str} {p : Pos} {t : TA} (c : CalR X.prog X.w X.K X.mg X.base x k ps sp) (hr : Room k X.A) (ha : PA X (e :: es) t) (hg : Gl X x := by rfl) (hdb : (x == ("__debug__" : Str)) = false := by decide)
    (he : starEach (e :: es) X.env = (false, eval e X.env) :: starEach es X.env := by rfl) (hpl : (backTo pos (starEach es X.env)).any (·.1) = false := by rfl) : PE X (.Call (.Name x p) (e :: es) [] pos) (tCall sp [] E0 t) :=
  let ⟨_, _, F, m, kp, b⟩ := c.ex; pe_call F hr hg m kp b .nil pass0 ha hdb he hpl
end
section
variable {P : Program} {w : World} {K : Fg} {mg : Str → Option Value} {base : Heap}
theorem cal_ok {x : String} {st : Stmt} {N ps : List Str} {k : Nat} {fT : Prom} (D : Df K mg x st ps) (S : FnScope N ps (defScope st)) (len : ∀ cs Q, fT cs Q → cs.length = ps.length)
    (hbody : ∀ (f : Addr) (cdv : Value) (A : Around) (outer : List Env) (s : Shared) (H : Hp) (E : XK), Room k (A.deeper (envOfC x (defScope st) s.heap.objs.size f cdv)) →
      ∃ tr, VSs (cxOf CX0 P w K mg base N x (defScope st) f cdv A outer s H E).nox (defBody st) tr ∧ ∀ cs Q, fT cs Q → tr ⟨fun _ => Q .none, Q, fun _ => False, fun _ => False⟩ (stC N cs)) : Cal P w K mg base x (k + 1) ps fT :=
  let ⟨f, fd, F, m, b⟩ := D; ⟨f, fd, fun_ok F S len (hbody f), m, F.kp, b⟩
/-- .. by the layer below -/
theorem calR_ok {x : String} {st : Stmt} {N ps : List Str} {k : Nat} {sp : Sp} (D : Df K mg x st ps) (S : FnScope N ps (defScope st)) (len : ∀ vs H Q E, sp vs H Q E → vs.length = ps.length)
    (hbody : ∀ (f : Addr) (cdv : Value) (A : Around) (outer : List Env) (s : Shared) (H : Hp) (vs : List V) (Q : VK) (E : XK), Room k (A.deeper (envOfC x (defScope st) s.heap.objs.size f cdv)) → sp vs H Q E →
      ∃ t, PSs (cxOf CX0 P w K mg base N x (defScope st) f cdv A outer s H E).nox (defBody st) t ∧ t { nx := fun _ H' => Q .non H', rt := Q } (L2.start N vs) H) : CalR P w K mg base x (k + 1) ps sp :=
  let ⟨f, fd, F, m, b⟩ := D; ⟨f, fd, F.ok S len (hbody f), m, F.kp, b⟩
theorem cal_false {x : String} {st : Stmt} {ps : List Str} {fT : Prom} (D : Df K mg x st ps) (h : ∀ cs Q, ¬ fT cs Q) : Cal P w K mg base x 0 ps fT :=
  let ⟨f, fd, F, m, b⟩ := D; ⟨f, fd, ⟨fun _ _ _ _ ⟨_, _, cs, G, _, _, q, _⟩ => (h cs G q).elim, fun _ _ _ _ _ _ _ _ _ _ _ _ _ ⟨_, _, cs, G, _, _, q, _⟩ => (h cs G q).elim⟩, m, F.kp, b⟩
theorem df_mk {x : String} {st : Stmt} {ps : List Str} {f : Addr} {oc : Value} {od an : Option Addr} {osl : Array (Option Value)} {kV doc pm cdv ct : Value} (a : mg x = some (.ref f)) (l : K.lookup f = some ⟨oc, od, .func (PySem.W.fnOf x x (defArgs st) (defBody st) (defScope st) .none kV doc pm an cdv ct), osl⟩)
    (c : PySem.W.codeIn K cdv x = true) (k : PySem.W.keepIn K (.ref f) = true) (hb : ∀ us : List Value, us.length = ps.length → bindArgs (PySem.W.fnOf x x (defArgs st) (defBody st) (defScope st) .none kV doc pm an cdv ct) ⟨us, []⟩ = pure (ps.zip us)) : Df K mg x st ps :=
  ⟨f, _, fun_mk l c k, a, .all hb⟩
end
/-! ### the shared changing things -/
theorem Ext.mo {F : Hp} {Ω : Om} {H : Hp} (w : Wd F Ω H) {a : Addr} {I : MI} {o : HO} (h : Ω a = some I) (i : I F o) : Ext F Ω H F Ω (upd H a o) := by
  obtain ⟨h1, ⟨u, hu, _⟩, m⟩ := w.om a I h
  refine ⟨Gr.refl _, fun _ _ => rfl, fun b v e z => ?_, fun b e => ?_, fun _ _ h => h, fun _ _ => rfl, ⟨fun b v e => ?_, fun b J e => ?_⟩⟩
  · rw [upd_ne (fun q => by rw [q, h] at z; cases z)]; exact e
  · by_cases z : b = a
    · rw [z, upd_same]; simp
    · rw [upd_ne z]; exact e
  · rw [upd_ne (fun q => by rw [q, h1] at e; cases e)]; exact w.sub b v e
  · by_cases z : b = a
    · subst z
      rw [h] at e
      cases e
      exact ⟨h1, ⟨o, upd_same, i⟩, m⟩
    · rw [upd_ne z]; exact w.om b J e
/-- the pool: the script, a place, a number, fills -/
def PoolI (K : Fg) (sa : Addr) : MI := fun F o => ∃ (p1 p2 p3 : Int) (ns : List Int), o = .lst [.ref sa, .int p1, .int p2, .int p3] ∧ ns.length ≤ 63 ∧ SqL K F sa (ns.map V.int)
theorem Gr.sqL {K : Fg} {F F' : Hp} (g : Gr F F') {a : Addr} {vs : List V} (h : SqL K F a vs) : SqL K F' a vs := by
  rcases h with (h | ⟨o, h⟩) | h
  · exact .inl (.inl (g _ _ h))
  · exact .inl (.inr ⟨o, g _ _ h⟩)
  · exact .inr h
theorem Sub.sqL {K : Fg} {F H : Hp} (s : Sub F H) {a : Addr} {vs : List V} (h : SqL K F a vs) : SqL K H a vs := by
  rcases h with (h | ⟨o, h⟩) | h
  · exact .inl (s.rd h)
  · rcases s a _ h with h | ⟨z, _⟩
    · exact .inl (.inr ⟨o, h⟩)
    · cases z
  · exact .inr h
theorem pool_mono (K : Fg) (sa : Addr) : ∀ F1 F2 o, Gr F1 F2 → PoolI K sa F1 o → PoolI K sa F2 o := fun F1 F2 o g ⟨p1, p2, p3, ns, e, h, q⟩ => ⟨p1, p2, p3, ns, e, h, g.sqL q⟩
/-! promises of the drawing defs -/
def spMixed : Sp := fun vs H Q _ => ∃ n p : Int, vs = [.int n, .int p] ∧ ∀ r : Int, Q (.int r) H
def spRest (K : Fg) : Sp := fun vs H Q _ => ∃ (sa : Addr) (p f : Int) (ns : List Int), vs = [.ref sa, .int p, .int f] ∧ SqL K H sa (ns.map V.int) ∧ ns.length ≤ 63 ∧ ∀ r : Int, Q (.int r) H
def spPool (K : Fg) : Sp := fun vs H Q _ => ∃ (sa : Addr) (ns : List Int), vs = [.ref sa] ∧ SqL K H sa (ns.map V.int) ∧ ns.length ≤ 63 ∧ ∀ (r : Int) p, H p = none → Q (.ref p) (upd H p (.lst [.ref sa, .int 0, .int r, .int 0]))
def spDraw (K : Fg) : Sp := fun vs H Q _ => ∃ (a sa : Addr) (l p1 p2 p3 : Int) (ns : List Int), vs = [.ref a, .int l] ∧ H a = some (.lst [.ref sa, .int p1, .int p2, .int p3]) ∧ SqL K H sa (ns.map V.int) ∧ ns.length ≤ 63 ∧ 0 < l ∧ l < 1073741824 ∧
  ∀ v p2' p3' : Int, 0 ≤ v → v < l → Q (.int v) (upd H a (.lst [.ref sa, .int p1, .int p2', .int p3']))
def spNext (K : Fg) : Sp := fun vs H Q _ => ∃ (a sa : Addr) (p1 p2 p3 : Int) (ns : List Int), vs = [.ref a] ∧ H a = some (.lst [.ref sa, .int p1, .int p2, .int p3]) ∧ SqL K H sa (ns.map V.int) ∧ ns.length ≤ 63 ∧
  ∀ p1' p2' p3' : Int, Q .non (upd H a (.lst [.ref sa, .int p1', .int p2', .int p3']))
def pDraw (K : Fg) : Prom := fun cs Q => ∃ (sa : Addr) (l : Int), cs = [.mo (PoolI K sa), .sh (.int l)] ∧ 0 < l ∧ l < 1073741824 ∧ ∀ v : Int, 0 ≤ v → v < l → Q (.int v)
def pNext (K : Fg) : Prom := fun cs Q => ∃ sa : Addr, cs = [.mo (PoolI K sa)] ∧ Q .none
/-- the script stays where a pool is written -/
theorem sqL_upd {K : Fg} {H : Hp} {a sa : Addr} {ns : List Int} {p1 p2 p3 : V} {o : HO} (h : SqL K H sa (ns.map V.int)) (hH : H a = some (.lst [.ref sa, p1, p2, p3])) : SqL K (upd H a o) sa (ns.map V.int) := by
  rcases h with (h | ⟨z, h⟩) | h
  · have ne : sa ≠ a := fun e => by
      rw [e, hH] at h
      cases ns with
      | nil => cases h
      | cons n r => cases h
    exact .inl (.inl (by rw [upd_ne ne]; exact h))
  · have ne : sa ≠ a := fun e => by
      rw [e, hH] at h
      cases h
    exact .inl (.inr ⟨z, by rw [upd_ne ne]; exact h⟩)
  · exact .inr h
section
variable {P : Program} {w : World} {K : Fg} {mg : Str → Option Value} {base : Heap}
theorem draw_T {k : Nat} {x : Str} {ps : List Str} (c : CalR P w K mg base x k ps (spDraw K)) : Cal P w K mg base x k ps (pDraw K) := c.imp fun vs H Q E ⟨F, Ω, cs, G, wd, r, ⟨sa, l, hc, h0, h1, hq⟩, kk⟩ => by
  subst hc
  match vs, r with
  | [v1, v2], ⟨_, ⟨a, e1, e2, _⟩, _, ⟨r2, _⟩, _⟩ =>
    cases r2
    subst e1
    obtain ⟨hf, ⟨o, ho, p1, p2, p3, ns, hoo, hl, hS⟩, hm⟩ := wd.om a _ e2
    subst hoo
    exact ⟨a, sa, l, p1, p2, p3, ns, rfl, ho, wd.sub.sqL hS, hl, h0, h1, fun v p2' p3' g0 g1 => kk (.int v) (.int v) F Ω _ (Ext.mo wd e2 ⟨p1, p2', p3', ns, rfl, hl, hS⟩) (.int v) (hq v g0 g1)⟩
theorem next_T {k : Nat} {x : Str} {ps : List Str} (c : CalR P w K mg base x k ps (spNext K)) : Cal P w K mg base x k ps (pNext K) := c.imp fun vs H Q E ⟨F, Ω, cs, G, wd, r, ⟨sa, hc, hq⟩, kk⟩ => by
  subst hc
  match vs, r with
  | [v1], ⟨_, ⟨a, e1, e2, _⟩, _⟩ =>
    subst e1
    obtain ⟨hf, ⟨o, ho, p1, p2, p3, ns, hoo, hl, hS⟩, hm⟩ := wd.om a _ e2
    subst hoo
    exact ⟨a, sa, p1, p2, p3, ns, rfl, ho, wd.sub.sqL hS, hl, fun p1' p2' p3' => kk .none .non F Ω _ (Ext.mo wd e2 ⟨p1', p2', p3', ns, rfl, hl, hS⟩) .non hq⟩
end
end TL
namespace TL
open PySem PySem.Spec PyProof.Rows L2
section
variable {X : Cx} {a b e : Expr} {es : List Expr} {pos : Pos} {K : Fg}
/-! ### isinstance of the plain built-in types -/
inductive Tn where
  | non | bl | int | str | lst | tup | dic
def Tn.nm : Tn → String
  | .non => "NoneType"
  | .bl => "bool"
  | .int => "int"
  | .str => "str"
  | .lst => "list"
  | .tup => "tuple"
  | .dic => "dict"
def Tn.sub : Tn → Tn → Bool
  | .non, .non => true
  | .bl, .bl => true
  | .bl, .int => true
  | .int, .int => true
  | .str, .str => true
  | .lst, .lst => true
  | .tup, .tup => true
  | .dic, .dic => true
  | _, _ => false
theorem kit_tn (a b : Tn) : kitB a.nm b.nm = some (a.sub b) := by cases a <;> cases b <;> decide +kernel
def tnC : C → Option Tn
  | .sh .none => some .non
  | .sh (.bool _) => some .bl
  | .sh (.int _) => some .int
  | .sh (.str _) => some .str
  | .sh (.list _) => some .lst
  | .sh (.tuple _) => some .tup
  | .ol _ => some .lst
  | .oll _ => some .lst
  | .od _ => some .dic
  | .odT _ => some .dic
  | _ => none
def cIsi (T : Tn) (c : C) (G : CK) : Prop := match tnC c with
  | some n => G (.sh (.bool (n.sub T)))
  | none => False
theorem tnC_ty {F H : Hp} {Ω : Om} {c : C} {v : V} {A : List Addr} {n : Tn} (w : Wd F Ω H) (r : RC K F Ω H c v A) (h : tnC c = some n) : TyX K H v (.type n.nm) := by
  cases c with
  | sh d =>
    obtain ⟨r, _⟩ := r
    cases d with
    | none => cases h; cases r; exact .base .non
    | bool b => cases h; cases r; exact .base (.bl b)
    | int i => cases h; cases r; exact .base (.int i)
    | str x => cases h; cases r; exact .base (.str x)
    | list ds => cases h; cases r with | lst e q => exact .base (.lst (w.sub.lst e))
    | tuple ds =>
      cases h
      cases r with
      | tup e q =>
        rcases w.sub.sqT e with (h | ⟨o, h⟩) | ⟨o, its, m, h1, h2, _⟩
        · exact .base (.tup h)
        · exact .fTuple h
        · exact .kTuple h1 h2
    | dict kvs => cases h
  | ol ds => cases h; obtain ⟨a, vs, rfl, _, e, _⟩ := r; exact .base (.lst e)
  | oll ds => cases h; obtain ⟨a, vs, as, rfl, _, e, _⟩ := r; exact .base (.lst e)
  | od ds => cases h; obtain ⟨a, vs, rfl, _, e, _⟩ := r; exact .base (.dK e)
  | odT ds => cases h; obtain ⟨a, vs, rfl, _, e, _⟩ := r; exact .base (.dT e)
  | un => cases h
  | mo I => cases h
theorem vc_isi {T : Tn} {p : Pos} {ta : TC} (ha : SE X a ta) (hb : PE X b (tC (.ty T.nm))) (hg : Gl X "isinstance") (hm : X.mg "isinstance" = none) (hs : starEach [a, b] X.env = (false, eval a X.env) :: starEach [b] X.env := by rfl) (hs2 : starEach [b] X.env = (false, eval b X.env) :: starEach [] X.env := by rfl) :
    VC X (.Call (.Name "isinstance" p) [a, b] [] pos) (cUn (cIsi T) ta) := by
  refine ⟨fun B => pe_imp (pe_callB call_isi hg hm PyProof.Rows.boot_isinstance (pa_cons (ha.pe B) (pa_cons hb pa_nil hs2) hs) (by decide) (by decide) hs (by rw [hs2]; rfl)) fun σ H Q ⟨F, Ω, ρ, G, en, g, k⟩ => ⟨F, Ω, ρ, _, en, g, fun c v F' Ω' H' A x r o gc => ?_⟩⟩
  unfold cIsi at gc
  split at gc
  · rename_i n hn
    exact ⟨_, _, _, _, _, rfl, .ty _, tnC_ty x.wd r hn, kit_ty (kit_tn n T), k.sh x (.bl _) gc⟩
  · exact gc.elim
abbrev cDivW := cI2 fun i j G => CDivW i j ∧ G (.sh (.int (i / j)))
theorem vc_divW {ta tb : TC} (ha : SE X a ta) (hb : SE X b tb) : VC X (.BinOp a .FloorDiv b pos) (cBin cDivW ta tb) := vc_op op_fdivW (ok_I2 (d := fun i j => .int (i / j)) (fun _ _ _ => .int _) fun _ _ _ h => h) ha hb
abbrev cMulW := cI2 fun i j G => CMulW i j ∧ G (.sh (.int (i * j)))
theorem vc_mulW {ta tb : TC} (ha : SE X a ta) (hb : SE X b tb) : VC X (.BinOp a .Mult b pos) (cBin cMulW ta tb) := vc_op op_mulW (ok_I2 (d := fun i j => .int (i * j)) (fun _ _ _ => .int _) fun _ _ _ h => h) ha hb
/-! ### sorted pairs of ints -/
abbrev eP (p : Int × Int) : D := .tuple [.int p.1, .int p.2]
def lexP (p q : Int × Int) : Bool := SrtO.lexB p q
theorem pairs_of {F H : Hp} (s : Sub F H) : ∀ {ps : List (Int × Int)} {vs : List V}, Reps K F vs (ps.map eP) → ∀ x ∈ vs, ∃ p, p ∈ ps ∧ Rep K F x (eP p)
  | [], _, .nil, _, m => nomatch m
  | p :: ps, _, .cons h t, x, m => by
    rcases List.mem_cons.mp m with rfl | m
    · exact ⟨p, List.mem_cons_self, h⟩
    · obtain ⟨q, hq, r⟩ := pairs_of s t x m
      exact ⟨q, List.mem_cons_of_mem _ hq, r⟩
theorem perm_lift {F : Hp} {f : Int × Int → D} {vs ys : List V} (hp : ys.Perm vs) : ∀ {ps : List (Int × Int)}, Reps K F vs (ps.map f) → ∃ qs : List (Int × Int), qs.Perm ps ∧ Reps K F ys (qs.map f) := by
  induction hp with
  | nil =>
    intro ps r
    cases ps with
    | nil => exact ⟨[], .refl _, .nil⟩
    | cons p ps => cases r
  | cons x _ ih =>
    intro ps r
    cases ps with
    | nil => cases r
    | cons p ps =>
      cases r with
      | cons h t =>
        obtain ⟨qs, hq, rq⟩ := ih t
        exact ⟨p :: qs, hq.cons p, .cons h rq⟩
  | swap x y l =>
    intro ps r
    cases ps with
    | nil => cases r
    | cons p ps =>
      cases r with
      | cons h t =>
        cases ps with
        | nil => cases t
        | cons q ps =>
          cases t with
          | cons h2 t => exact ⟨q :: p :: ps, .swap p q ps, .cons h2 (.cons h t)⟩
  | trans _ _ ih1 ih2 =>
    intro ps r
    obtain ⟨qs, hq, rq⟩ := ih2 r
    obtain ⟨us, hu, ru⟩ := ih1 rq
    exact ⟨us, hu.trans hq, ru⟩
/-- a value that is a pair of ints -/
def PrV (K : Fg) (H : Hp) (x : V) (p : Int × Int) : Prop := ∃ t, x = .ref t ∧ SqT K H t [.int p.1, .int p.2]
theorem cr_srtPr : CallR X (.builtin "sorted") (fun vs H Q => ∃ (a : Addr) (xs : List V), vs = [V.ref a] ∧ SqL X.K H a xs ∧ (∀ x ∈ xs, ∃ p, PrV X.K H x p) ∧
    ∀ (ys : List V) (d : Addr), ys.Perm xs → (∀ qs : List (Int × Int), Paired (PrV X.K H) ys qs → qs.Pairwise fun p q => ¬ lexP q p = true) → H d = none → Q (.ref d) (upd H d (.lst ys))) := by
  intro pins s σ H vs us Q I r h
  obtain ⟨a, xs, rfl, hs, hx, q⟩ := h
  obtain ⟨its, rv, hl, hz⟩ := I.list hs
  obtain ⟨u, rfl, ru⟩ := vals1 r
  obtain rfl : u = Value.ref a := ru
  obtain ⟨e1, e2⟩ := refs_back rv fun x m => let ⟨p, t, e, _⟩ := hx x m; ⟨t, e⟩
  -- each item's two ints
  let k : Value → Int × Int := fun u => Classical.epsilon fun p => PrV X.K H (backV u) p
  have hk : ∀ v ∈ its, PrV X.K H (backV v) (k v) := fun v hv => by
    have ex : ∃ p, PrV X.K H (backV v) p := hx _ (by rw [e1]; exact List.mem_map.mpr ⟨_, hv, rfl⟩)
    exact Classical.epsilon_spec (p := fun p => PrV X.K H (backV v) p) ex
  have uq : ∀ {x : V} {p p' : Int × Int}, PrV X.K H x p → PrV X.K H x p' → p = p' := fun {x p p'} ⟨t, e, h1⟩ ⟨t', e', h2⟩ => by
    subst e
    cases e'
    have e3 := I.tuple_inj h1 h2
    injection e3 with e4 e5
    injection e4 with e4
    injection e5 with e5 _
    injection e5 with e5
    exact Prod.ext e4 e5
  refine SrtO.sorted_pairsO (k := k) hl.isList (by rw [← rv.length]; exact hz) (fun v hv => ?_) fun h' d out h1 h2 kp hd hn => ?_
  · obtain ⟨t, rfl⟩ := e2 v hv
    obtain ⟨t', e, ht⟩ := hk _ hv
    cases e
    obtain ⟨its2, r2, ⟨o, ho, hc, n, hd⟩, _⟩ := I.tuple ht
    obtain ⟨u1, u2, rfl, ri, rj⟩ := vals2 r2
    obtain ⟨t1, rfl⟩ := ri
    obtain ⟨t2, rfl⟩ := rj
    exact ⟨t, o, t1, t2, n, rfl, ho, hc, hd⟩
  · have h3 : ∀ u ∈ out, ∃ a, u = Value.ref a := fun u hu => e2 u (h2.perm.mem_iff.mp hu)
    obtain ⟨n, hn⟩ := hn
    have hlen : (out.map backV).length ≤ sizeLine := by
      rw [List.length_map, h2.perm.length_eq, ← rv.length]
      exact hz
    refine ⟨.ref d, upd H d (.lst (out.map backV)), I.laid (t' := s.toks) kp hd ⟨hlen, out, n, vals_back h3, hn⟩, rfl, q _ d (by rw [e1]; exact h2.perm.map backV) (fun qs hq => ?_) (I.hok.fresh hd)⟩
    have eq : ∀ (l : List Value) (qs : List (Int × Int)), (∀ v ∈ l, v ∈ its) → Paired (PrV X.K H) (l.map backV) qs → qs = l.map k := by
      intro l
      induction l with
      | nil => intro qs _ h; cases h; rfl
      | cons v l ih =>
        intro qs hm h
        cases h with
        | cons h t => rw [uq h (hk v (hm v List.mem_cons_self)), ih _ (fun u hu => hm u (List.mem_cons_of_mem _ hu)) t]; rfl
    rw [eq out qs (fun v hv => h2.perm.mem_iff.mp hv) hq]
    refine List.pairwise_map.mpr (h1.imp fun {x y} h z => ?_)
    have h : SrtO.lexB (k y) (k x) = false := h
    have z : SrtO.lexB (k y) (k x) = true := z
    rw [h] at z
    cases z
def cSortP (c : C) (G : CK) : Prop := ∃ ps : List (Int × Int), lsC c = some (ps.map eP) ∧ ∀ qs : List (Int × Int), qs.Perm ps → (qs.Pairwise fun p q => ¬ lexP q p = true) → G (.ol (qs.map eP))
theorem rep_pr {F H : Hp} (s : Sub F H) {x : V} {p : Int × Int} (r : Rep K F x (eP p)) : PrV K H x p := by
  cases r with
  | tup e q =>
    cases q with
    | cons h1 q =>
      cases h1
      cases q with
      | cons h2 q =>
        cases h2
        cases q
        exact ⟨_, rfl, s.sqT e⟩
theorem reps_pr {F H : Hp} (s : Sub F H) : ∀ {ps : List (Int × Int)} {vs : List V}, Reps K F vs (ps.map eP) → Paired (PrV K H) vs ps
  | [], _, .nil => .nil
  | _ :: _, _, .cons h t => .cons (rep_pr s h) (reps_pr s t)
theorem vc_sortP {p : Pos} {ta : TC} (ha : SE X a ta) (hg : Gl X "sorted") (hm : X.mg "sorted" = none) (hs : starEach [a] X.env = (false, eval a X.env) :: starEach [] X.env := by rfl) : VC X (.Call (.Name "sorted" p) [a] [] pos) (cUn cSortP ta) :=
  vc_b1 cr_srtPr (fun F Ω H c v A G Q w r ⟨ps, hl, h⟩ k => by
    obtain ⟨a, vs, rfl, ea, qa⟩ := lsC_get w r hl
    refine ⟨a, vs, rfl, .inl (.inl ea), fun x m => ?_, fun ys d hp hs n => ?_⟩
    · obtain ⟨p, _, rp⟩ := pairs_of w.sub qa x m
      exact ⟨p, rep_pr w.sub rp⟩
    · obtain ⟨qs, hq, rq⟩ := perm_lift hp qa
      exact k.ol w n rq (h qs hq (hs qs (reps_pr w.sub rq)))) hg hm (by decide +kernel) ha hs
end
end TL
namespace TL
open PySem PySem.Spec PyProof.Rows L2
theorem Room.units65 {k : Nat} {A : Around} (r : Room k A) : A.units + 65 < cLine := by have := r.un; omega
theorem blk_ok {N : List Str} {sc scope : Scope} {own : List (Str × Nat)} (h : blkC N sc scope own = true) : blkC N sc scope own = true := h
/-! ### reading lemmas -/
theorem lc_map {α : Type} {g : VG'} {tt : TB} {te : TC} {ρ : List C} (f : α → D) (h : α → D) (p : α → Bool) : ∀ (xs : List α) {ds : List D} {k : List D → Prop}, ds = xs.map f →
    (∀ a ∈ xs, ∀ (k1 : D → Prop) (k2 : Prop), (p a = true → k1 (h a)) → (p a = false → k2) → g (f a) ρ fun ρ1 => tt ρ1 fun b => if b = true then te ρ1 fun c => fz c k1 else k2) →
    k ((xs.filter p).map h) → lcRun g tt te ρ ds k
  | [], _, k, e, _, q => by subst e; exact q
  | a :: xs, _, k, e, st, q => by
    subst e
    refine st a List.mem_cons_self _ _ (fun hp => ?_) (fun hp => ?_)
    · refine lc_map f h p xs rfl (fun b m => st b (List.mem_cons_of_mem _ m)) ?_
      rw [List.filter_cons_of_pos hp] at q
      exact q
    · refine lc_map f h p xs rfl (fun b m => st b (List.mem_cons_of_mem _ m)) ?_
      rw [List.filter_cons_of_neg (by rw [hp]; decide)] at q
      exact q
/-- .. all of them kept -/
theorem lc_all {α : Type} {g : VG'} {tt : TB} {te : TC} {ρ : List C} (f : α → D) (h : α → D) (xs : List α) {ds : List D} {k : List D → Prop} (e : ds = xs.map f)
    (st : ∀ a ∈ xs, ∀ (k1 : D → Prop) (k2 : Prop), k1 (h a) → g (f a) ρ fun ρ1 => tt ρ1 fun b => if b = true then te ρ1 fun c => fz c k1 else k2) (q : k (xs.map h)) : lcRun g tt te ρ ds k :=
  lc_map f h (fun _ => true) xs e (fun a m k1 k2 h1 _ => st a m k1 k2 (h1 rfl)) (by rw [List.filter_eq_self.mpr fun _ _ => rfl]; exact q)
theorem slD_take {α : Type} (xs : List α) (i : Nat) : slD xs none (some (i : Int)) = xs.take i := by
  unfold slD
  rw [HT.sIx_none, HT.sIx_nat, List.drop_zero, Nat.sub_zero]
  by_cases h : i ≤ xs.length
  · rw [Nat.min_eq_left h]
  · rw [Nat.min_eq_right (by omega), List.take_of_length_le (Nat.le_refl _), List.take_of_length_le (by omega)]
theorem slD_drop {α : Type} (xs : List α) (i : Nat) : slD xs (some (i : Int)) none = xs.drop i := by
  unfold slD
  rw [HT.sIx_none, HT.sIx_nat]
  by_cases h : i ≤ xs.length
  · rw [Nat.min_eq_left h, List.take_of_length_le (by rw [List.length_drop]; exact Nat.le_refl _)]
  · rw [Nat.min_eq_right (by omega), List.drop_of_length_le (Nat.le_refl _), List.drop_of_length_le (by omega), List.take_nil]
theorem slD_drop1 {α : Type} (xs : List α) (i : Nat) : slD xs (some ((i : Int) + 1)) none = xs.drop (i + 1) := slD_drop xs (i + 1)
theorem enu_get {ds : List D} {i : Nat} {x : D} (h : (enuD 0 ds)[i]? = some x) : ∃ z, ds[i]? = some z ∧ x = .tuple [.int (i : Int), z] := by
  rw [enuD_get] at h
  cases hz : ds[i]? with
  | none => rw [hz] at h; cases h
  | some z =>
    rw [hz, Nat.zero_add] at h
    cases h
    exact ⟨z, rfl, rfl⟩
theorem map_get {α β : Type} {f : α → β} {xs : List α} {i : Nat} {x : β} (h : (xs.map f)[i]? = some x) : ∃ z, xs[i]? = some z ∧ x = f z := by
  rw [List.getElem?_map] at h
  cases hz : xs[i]? with
  | none => rw [hz] at h; cases h
  | some z =>
    rw [hz] at h
    cases h
    exact ⟨z, rfl, rfl⟩
theorem get_map {α β : Type} {f : α → β} {xs : List α} {i : Nat} {x : α} (h : xs[i]? = some x) : (xs.map f)[i]? = some (f x) := by rw [List.getElem?_map, h]; rfl
theorem lt_of_get {α : Type} {xs : List α} {i : Nat} {x : α} (h : xs[i]? = some x) : i < xs.length := (List.getElem?_eq_some_iff.mp h).1
theorem rng_get {lo : Int} {n i : Nat} {x : D} (h : (rngD lo n)[i]? = some x) : i < n ∧ x = .int (lo + i) := by
  have hi : i < n := by
    have := lt_of_get h
    simpa [rngD] using this
  have : (rngD lo n)[i]? = some (.int (lo + i)) := by simp [rngD, hi]
  rw [this] at h
  cases h
  exact ⟨hi, rfl⟩
theorem rng_len {lo : Int} {n : Nat} : (rngD lo n).length = n := by simp [rngD]
theorem rng_map {n : Nat} : rngD 0 n = (List.range n).map fun i => .int (i : Nat) := by
  unfold rngD
  congr 1
  funext i
  rw [Int.zero_add]
/-- a decided test -/
theorem itd {p A B : Prop} [Decidable p] (h1 : p → A) (h2 : ¬ p → B) : if decide p = true then A else B := ite2 (fun e => h1 (of_decide_eq_true e)) fun e => h2 fun h => e (decide_eq_true h)
theorem itn {p A B : Prop} [Decidable p] (h1 : ¬ p → A) (h2 : p → B) : if (!decide p) = true then A else B := by
  by_cases h : p
  · rw [decide_eq_true h]; exact h2 h
  · rw [decide_eq_false h]; exact h1 h
theorem itb {b : Bool} {A B : Prop} (h1 : b = true → A) (h2 : b = false → B) : if b = true then A else B := ite2 h1 fun e => h2 (by cases b <;> simp_all)
theorem slD_map {α β : Type} (f : α → β) (xs : List α) (lo hi : Option Int) : slD (xs.map f) lo hi = (slD xs lo hi).map f := by
  unfold slD
  rw [List.length_map, List.map_take, List.map_drop]
/-! data that are compared -/
theorem shaped_of {d : D} (h : d.canLay0 = true) (hd : d.depth ≤ 64) : SeqAt.shaped d = true := by
  show (d.canLay0 && decide (d.depth ≤ 64)) = true
  rw [h, decide_eq_true hd]
  rfl
theorem layI : ∀ ns : List Int, PyData.canLayAll0 (ns.map PyData.int) = true
  | [] => by simp [PyData.canLayAll0]
  | _ :: ns => by simp only [List.map_cons, PyData.canLayAll0, PyData.canLay0, layI ns]; rfl
theorem depI : ∀ ns : List Int, PyData.depthAll (ns.map PyData.int) = 0
  | [] => by simp [PyData.depthAll]
  | _ :: ns => by simp only [List.map_cons, PyData.depthAll, PyData.depth, depI ns]; rfl
theorem shaped_I (ns : List Int) : SeqAt.shaped (.list (ns.map PyData.int)) = true := shaped_of (by simp only [PyData.canLay0, layI]) (by simp only [PyData.depth, depI]; omega)
end TL
namespace TL
open PySem PySem.Spec PyProof.Rows L2
section
variable {X : Cx} {a b e : Expr} {es : List Expr} {pos : Pos} {K : Fg} {st : Stmt} {t u : TR}
/-! ### new dicts -/
theorem Fin.own {F : Hp} {Ω : Om} {H : Hp} {G : CK} {Q : VK} (h : Fin K F Ω H G Q) (w : Wd F Ω H) {p : Addr} (n : H p = none) {o : HO} {c : C} (r : ∀ H', H' p = some o → RC K F Ω H' c (.ref p) [p]) (g : G c) : Q (.ref p) (upd H p o) :=
  h c _ F Ω _ [p] (Ext.laid w n) (r _ upd_same) (fun a m => by
    rw [List.mem_singleton.mp m]
    exact ⟨w.sub.none n, w.om_none n⟩) (fun a m => by rw [List.mem_singleton.mp m]; exact n) g
theorem vc_newK : VC X (.Dict [] [] pos) (fun ρ G => G (.od [])) :=
  ⟨fun B => pe_imp pe_dnewK fun σ H Q ⟨F, Ω, ρ, G, en, g, k⟩ => fun p n => k.own (c := .od []) en.wd n (fun H' e => ⟨p, [], rfl, rfl, e, .nil⟩) g⟩
theorem vc_newT : VC X (.Dict [] [] pos) (fun ρ G => G (.odT [])) :=
  ⟨fun B => pe_imp pe_dnewT fun σ H Q ⟨F, Ω, ρ, G, en, g, k⟩ => fun p n => k.own (c := .odT []) en.wd n (fun H' e => ⟨p, [], rfl, rfl, e, .nil⟩) g⟩
/-! ### a thing of one's own becomes shared -/
def pubO : C → HO → Prop
  | .ol [], o => o = .lst []
  | .od [], o => o = .dK []
  | .odT [], o => o = .dT []
  | _, _ => False
def pubAt (I : MI) (i : Nat) (ρ : List C) (G : List C → Prop) : Prop := ∃ c o, ρ[i]? = some c ∧ pubO c o ∧ (∀ F, I F o) ∧ (∀ F1 F2 o, Gr F1 F2 → I F1 o → I F2 o) ∧ G (ρ.set i (.mo I))
theorem pub_get {F : Hp} {Ω : Om} {H : Hp} {c : C} {o : HO} {v : V} {A : List Addr} (h : pubO c o) (r : RC K F Ω H c v A) : ∃ a, v = .ref a ∧ A = [a] ∧ H a = some o := by
  unfold pubO at h
  split at h
  · obtain ⟨a, vs, rfl, rfl, e, q⟩ := r
    cases q
    exact ⟨a, rfl, rfl, by rw [h]; exact e⟩
  · obtain ⟨a, vs, rfl, rfl, e, q⟩ := r
    cases q
    exact ⟨a, rfl, rfl, by rw [h]; exact e⟩
  · obtain ⟨a, vs, rfl, rfl, e, q⟩ := r
    cases q
    exact ⟨a, rfl, rfl, by rw [h]; exact e⟩
  · exact h.elim
theorem En.pub {B : Bs} {F : Hp} {Ω : Om} {H : Hp} {σ : L2.St} {ρ : List C} (e : En K B F Ω H σ ρ) {i : Nat} {I : MI} {c : C} {o : HO} (hc : ρ[i]? = some c) (hp : pubO c o) (hI : I F o) (hm : ∀ F1 F2 o, Gr F1 F2 → I F1 o → I F2 o) : ∃ Ω', En K B F Ω' H σ (ρ.set i (.mo I)) := by
  have hn : c ≠ .un := fun z => by rw [z] at hp; exact hp
  obtain ⟨As, h1, h2, h3⟩ := e.own
  obtain ⟨v, hv, r⟩ := h1 i c hc hn
  obtain ⟨a, rfl, eA, ea⟩ := pub_get hp r
  obtain ⟨v2, A2, hv2, r2, ow2, fin⟩ := e.chg (c' := .mo I) hc hn
  rw [hv] at hv2
  cases hv2
  obtain ⟨a2, z, eA2, ea2⟩ := pub_get hp r2
  cases z
  obtain ⟨f1, f2, f3, f4⟩ := h2 i a (by rw [eA]; exact List.mem_cons_self)
  let Ω' : Om := fun b => if b = a then some I else Ω b
  have on : ∀ b, b ≠ a → Ω' b = Ω b := fun b hb => if_neg hb
  refine ⟨Ω', fin F Ω' H [] ⟨e.ex.sub, e.ex.new, e.ex.keep, e.ex.here, fun b J hb => ?_, fun b hb => ?_, ⟨e.wd.sub, fun b J hb => ?_⟩⟩ (Gr.refl _) (fun b hb hh => ⟨rfl, on b (fun z => hb (by rw [eA2, z]; exact List.mem_cons_self)), fun o h _ => h⟩) (fun b J hb => ?_) ⟨a, rfl, if_pos rfl, rfl⟩ ow_nil (fun _ m => nomatch m)⟩
  · have := e.ex.omg b J hb
    rw [on b (fun z => by rw [z, f2] at this; cases this)]
    exact this
  · rw [on b (fun z => hb (by rw [z]; exact f4))]
    exact e.ex.omn b hb
  · by_cases z : b = a
    · subst z
      have : I = J := Option.some.inj ((if_pos rfl).symm.trans hb)
      subst this
      exact ⟨f1, ⟨o, ea, hI⟩, hm⟩
    · rw [on b z] at hb
      exact e.wd.om b J hb
  · rw [on b (fun z => by rw [z, f2] at hb; cases hb)]
    exact hb
/-- .. ahead of a statement -/
theorem vs_pub (I : MI) (i : Nat) (h : VS X st t) : VS X st (fun d ρ => pubAt I i ρ (t d)) :=
  ⟨fun B => ps_imp (h.ps B) fun De σ H ⟨F, Ω, ρ, d, en, ⟨c, o, hc, hp, hI, hm, g⟩, k⟩ => by
    obtain ⟨Ω', en'⟩ := en.pub hc hp (hI F) hm
    exact ⟨F, Ω', _, d, en', g, k⟩⟩
/-- what comes behind a statement, told once -/
theorem vs_cut (h : VS X st t) : VS X st (fun d ρ => ∃ Z : List C → Prop, t { d with nx := Z } ρ ∧ ∀ ρ', Z ρ' → d.nx ρ') :=
  ⟨fun B => ps_imp (h.ps B) fun De σ H ⟨F, Ω, ρ, d, en, ⟨Z, g, z⟩, k⟩ => ⟨F, Ω, ρ, { d with nx := Z }, en, g, ⟨fun σ' F' Ω' H' ρ' gr en' g' => k.nx σ' F' Ω' H' ρ' gr en' (z ρ' g'), k.rt, k.bk, k.ct⟩⟩⟩
/-! ### where a law begins -/
def spLaw (K : Fg) : Sp := fun vs H Q _ => ∃ (a : Addr) (ns : List Int), vs = [.ref a] ∧ SqL K H a (ns.map V.int) ∧ ns.length ≤ 63 ∧ ∀ H', Q (.bl true) H'
def B0 : Bs := ⟨fun _ => none, fun _ => none, fun _ => none⟩
theorem law_en {H : Hp} {sa p : Addr} {ns : List Int} {r : Int} (n : Nat) (hS : SqL K H sa (ns.map V.int)) (hl : ns.length ≤ 63) (hp : H p = none) :
    ∃ F Ω, En K B0 F Ω (upd H p (.lst [.ref sa, .int 0, .int r, .int 0])) (some (.ref sa) :: some (.ref p) :: List.replicate n none) (.un :: .mo (PoolI K sa) :: List.replicate n .un) := by
  let F : Hp := fun b => if b = sa ∧ b ≠ p then H b else none
  let Ω : Om := fun b => if b = p then some (PoolI K sa) else none
  have hF : SqL K F sa (ns.map V.int) := by
    rcases hS with (h | ⟨o, h⟩) | h
    · exact .inl (.inl (by show (if sa = sa ∧ sa ≠ p then H sa else none) = _; rw [if_pos ⟨rfl, ne_of_none h hp⟩]; exact h))
    · exact .inl (.inr ⟨o, by show (if sa = sa ∧ sa ≠ p then H sa else none) = _; rw [if_pos ⟨rfl, ne_of_none h hp⟩]; exact h⟩)
    · exact .inr h
  have wd : Wd F Ω (upd H p (.lst [.ref sa, .int 0, .int r, .int 0])) := by
    refine ⟨fun b u hb => ?_, fun b J hb => ?_⟩
    · have hb : (if b = sa ∧ b ≠ p then H b else none) = some u := hb
      by_cases z : b = sa ∧ b ≠ p
      · rw [if_pos z] at hb
        rw [upd_ne z.2]
        exact .inl hb
      · rw [if_neg z] at hb
        cases hb
    · have hb : (if b = p then some (PoolI K sa) else none) = some J := hb
      by_cases z : b = p
      · rw [if_pos z] at hb
        cases hb
        subst z
        exact ⟨if_neg fun h => h.2 rfl, ⟨_, upd_same, 0, r, 0, ns, rfl, hl, hF⟩, pool_mono K sa⟩
      · rw [if_neg z] at hb
        cases hb
  have ex : Ext B0.F B0.Ω B0.H F Ω (upd H p (.lst [.ref sa, .int 0, .int r, .int 0])) := by
    constructor
    · exact fun _ _ h => nomatch h
    · exact fun _ h => absurd rfl h
    · exact fun _ _ h => nomatch h
    · exact fun _ h => absurd rfl h
    · exact fun _ _ h => nomatch h
    · exact fun _ h => absurd rfl h
    · exact wd
  refine ⟨F, Ω, ex, by simp, fun _ => [], fun i c hc hn => ?_, fun _ _ m => (nomatch m), fun _ _ _ _ m => (nomatch m)⟩
  match i, hc with
    | 0, hc => cases hc; exact absurd rfl hn
    | 1, hc => cases hc; exact ⟨.ref p, rfl, p, rfl, if_pos rfl, rfl⟩
    | i + 2, hc =>
      have hc : (List.replicate n C.un)[i]? = some c := hc
      have := List.eq_of_mem_replicate (List.mem_of_getElem? hc)
      exact absurd this hn
theorem law_go {tr : TR} {H : Hp} {sa p : Addr} {ns : List Int} {r : Int} {n : Nat} {De : Ends} (hS : SqL K H sa (ns.map V.int)) (hl : ns.length ≤ 63) (hp : H p = none) (q : ∀ H', De.rt (.bl true) H')
    (h : tr ⟨fun _ => False, fun d => d = .bool true, fun _ => False, fun _ => False⟩ (.un :: .mo (PoolI K sa) :: List.replicate n .un)) : upT K B0 tr De (some (.ref sa) :: some (.ref p) :: List.replicate n none) (upd H p (.lst [.ref sa, .int 0, .int r, .int 0])) := by
  obtain ⟨F, Ω, en⟩ := law_en (r := r) n hS hl hp
  exact ⟨F, Ω, _, _, en, h, ⟨fun _ _ _ _ _ _ _ z => z.elim, fun v F' Ω' H' x _ _ rx z => by
    have z : x = .bool true := z
    subst z
    cases rx
    exact q H', fun _ _ _ _ _ _ _ z => z.elim, fun _ _ _ _ _ _ _ z => z.elim⟩⟩
end
end TL
namespace My
open PySem PySem.Spec PyProof.Rows L2 TL
def topS (i : Nat) : Stmt := PySem.Challenge.pw_boxwood_k99_whole_tables_counted.main.body.getD i (.Pass ⟨0, 0, 0, 0⟩)
abbrev sMixed : Stmt := topS 8
abbrev sRest : Stmt := topS 9
abbrev sPool : Stmt := topS 10
abbrev sDraw : Stmt := topS 11
/-! ### the pool -/
theorem scMixed : FnScope ["number", "place", "first", "second", "third"] ["number", "place"] (defScope sMixed) := ⟨rfl, rfl, rfl, by decide +kernel, rfl, by decide +kernel, by decide +kernel⟩
theorem scRest : FnScope ["script", "place", "fills", "number"] ["script", "place", "fills"] (defScope sRest) := ⟨rfl, rfl, rfl, by decide +kernel, rfl, by decide +kernel, by decide +kernel⟩
theorem scPool : FnScope ["script"] ["script"] (defScope sPool) := ⟨rfl, rfl, rfl, by decide +kernel, rfl, by decide +kernel, by decide +kernel⟩
theorem scDraw : FnScope ["pool", "limit", "value"] ["pool", "limit"] (defScope sDraw) := ⟨rfl, rfl, rfl, by decide +kernel, rfl, by decide +kernel, by decide +kernel⟩
theorem boot_int' : bootBuiltins "int" = some (.type "int") := by decide +kernel
section
variable {P : Program} {w : World} {K : Fg} {mg : Str → Option Value} {base : Heap}
theorem ok_mixed (D : Df K mg "_law_mixed" sMixed ["number", "place"]) (mi : mg "int" = none) : CalR P w K mg base "_law_mixed" 1 ["number", "place"] spMixed := by
  refine calR_ok D scMixed (fun vs H Q E ⟨n, p, h, _⟩ => by rw [h]; rfl) (fun f cdv A outer s H vs Q E hr ⟨n, p, hv, q⟩ => ?_)
  subst hv
  refine ⟨_, pss_cons (ps_set (i := 2) scMixed.nd rfl (.inl rfl) (pe_op op_mod (pe_callTy call_int1 (by rfl) mi boot_int' (pa_cons (pe_op op_add (pe_op op_add (pe_op op_mul (pv 0) pe_int) (pe_op op_mul (pv 1) pe_int)) pe_int) pa_nil)) pe_int))
    (pss_cons (ps_set (i := 3) scMixed.nd rfl (.inl rfl) (pe_op op_mod (pe_callTy call_int1 (by rfl) mi boot_int' (pa_cons (pe_op op_add (pe_op op_add (pe_op op_mulW (pv 2) (pv 2)) (pe_op op_mul pe_int (pv 2))) (pv 1)) pa_nil)) pe_int))
    (pss_cons (ps_set (i := 4) scMixed.nd rfl (.inl rfl) (pe_op op_mod (pe_callTy call_int1 (by rfl) mi boot_int' (pa_cons (pe_op op_add (pe_op op_mulW (pv 3) (pv 3)) (pv 2)) pa_nil)) pe_int))
    (pss_one (ps_ret (pe_op op_add (pe_op op_mulW (pv 3) pe_int) (pv 4)))))), ?_⟩
  have b1 : ∀ x : Int, (x % 618970019642690137449562111).natAbs < 2 ^ 90 := fun x => by
    have h1 := Int.emod_nonneg x (show (618970019642690137449562111 : Int) ≠ 0 by decide)
    have h2 := Int.emod_lt_of_pos x (show (0 : Int) < 618970019642690137449562111 by decide)
    omega
  have b2 : ∀ x : Int, (x % 162259276829213363391578010288127).natAbs < 2 ^ 110 := fun x => by
    have h1 := Int.emod_nonneg x (show (162259276829213363391578010288127 : Int) ≠ 0 by decide)
    have h2 := Int.emod_lt_of_pos x (show (0 : Int) < 162259276829213363391578010288127 by decide)
    omega
  have g1 : (0 : Int) < 618970019642690137449562111 := by decide
  have g2 : (0 : Int) < 162259276829213363391578010288127 := by decide
  refine ⟨_, rfl, _, _, rfl, rfl, .inr ⟨by decide, by decide⟩, _, rfl, _, _, rfl, rfl, .inr ⟨by decide, by decide⟩, _, _, rfl, rfl, _, _, rfl, rfl, .inl ⟨_, rfl, _, _, rfl, rfl, g1, ?_⟩⟩
  refine ⟨_, rfl, _, rfl, _, _, rfl, rfl, wide_mul (b1 _) (b1 _) (by decide) (by decide) (by decide), _, rfl, _, _, rfl, rfl, .inl ⟨by decide, by decide⟩, _, _, rfl, rfl, _, rfl, _, _, rfl, rfl, .inl ⟨_, rfl, _, _, rfl, rfl, g2, ?_⟩⟩
  refine ⟨_, rfl, _, rfl, _, _, rfl, rfl, wide_mul (b2 _) (b2 _) (by decide) (by decide) (by decide), _, rfl, _, _, rfl, rfl, .inl ⟨_, rfl, _, _, rfl, rfl, g1, ?_⟩⟩
  exact ⟨_, rfl, _, _, rfl, rfl, wide_mul (b := 90) (b2 _) (by decide) (by decide) (by decide) (by decide), _, rfl, _, _, rfl, rfl, q _⟩
theorem ok_rest {c0 : CalR P w K mg base "_law_mixed" 1 ["number", "place"] spMixed} (D : Df K mg "_law_rest" sRest ["script", "place", "fills"]) (mi : mg "int" = none) (ml : mg "len" = none) : CalR P w K mg base "_law_rest" 2 ["script", "place", "fills"] (spRest K) := by
  refine calR_ok D scRest (fun vs H Q E ⟨sa, p, f, ns, h, _⟩ => by rw [h]; rfl) (fun f cdv A outer s H vs Q E hr ⟨sa, p, fi, ns, hv, hS, hl, q⟩ => ?_)
  subst hv
  have nd := scRest.nd
  refine ⟨_, pss_cons (ps_set (i := 3) nd rfl (.inl rfl) pe_int)
    (pss_cons (ps_if (pt_cmpR op_gt (pe_callB call_len_seq (by rfl) ml PySem.boot_len (pa_cons (pv 0) pa_nil)) pe_int (nomark _))
        (pss_one (ps_set (i := 3) nd rfl (.inl rfl) (pe_callTy call_int1 (by rfl) mi boot_int' (pa_cons (pe_ix ix_list (pv 0) (pe_op op_mod (pe_callTy call_int1 (by rfl) mi boot_int' (pa_cons (pv 1) pa_nil)) (pe_callB call_len_seq (by rfl) ml PySem.boot_len (pa_cons (pv 0) pa_nil))) (fun _ _ => rfl)) pa_nil)))) pss_nil)
    (pss_cons (ps_if (pt_cmpR op_lt (pv 3) pe_int (nomark _)) (pss_one (ps_set (i := 3) nd rfl (.inl rfl) (pe_op op_sub pe_int (pe_op op_mul pe_int (pv 3))))) pss_nil)
    (pss_cons (ps_if (PW.pt (pw_and (pt_cmpR op_eq (pv 2) pe_int (nomark _)) (pw_and (pt_cmpR op_lt (pv 1) (pe_callB call_len_seq (by rfl) ml PySem.boot_len (pa_cons (pv 0) pa_nil)) (nomark _)) (pw_and1 (pt_cmpR op_ge (pv 3) (pe_op op_pow pe_int pe_int) (nomark _))))))
        (pss_one (ps_ret (pe_op op_sub (pv 3) (pe_op op_pow pe_int pe_int)))) pss_nil)
    (pss_one (ps_ret (pe_cal c0 (hr.mono (by decide)) (pa_cons (pe_op op_add (pv 3) (pe_op op_mul (pv 2) pe_int)) (pa_cons (pv 1) pa_nil)))))))), ?_⟩
  have g0 : ∀ ns : List Int, (decide ((0 : Int) < ((ns.map V.int).length : Nat)) = true) → (0 : Int) < (ns.length : Nat) := fun ns h => by
    have := of_decide_eq_true h
    rwa [List.length_map] at this
  refine ⟨_, rfl, sa, _, rfl, .inl hS, _, _, rfl, rfl, _, rfl, ite2 (fun e => ?_) (fun e => ?_)⟩
  · have e1 := g0 ns e
    have e2 : ((ns.map V.int).length : Int) = (ns.length : Nat) := by rw [List.length_map]
    have hj : (p % (ns.length : Nat)).toNat < ns.length := by
      have h1 := Int.emod_nonneg p (show ((ns.length : Nat) : Int) ≠ 0 by omega)
      have h2 := Int.emod_lt_of_pos p e1
      omega
    have hat : atI (ns.map V.int) (p % ((ns.map V.int).length : Nat)) = some (.int ns[(p % (ns.length : Nat)).toNat]) := by
      have h1 := Int.emod_nonneg p (show ((ns.length : Nat) : Int) ≠ 0 by omega)
      have h3 : (p % ((ns.map V.int).length : Nat)) = (((p % (ns.length : Nat)).toNat : Nat) : Int) := by rw [e2]; omega
      rw [h3]
      apply atI_nat
      rw [List.getElem?_map, List.getElem?_eq_getElem hj]
      rfl
    refine ⟨.ref sa, rfl, _, rfl, .inl ⟨_, rfl, .ref sa, rfl, sa, _, rfl, .inl hS, _, _, rfl, rfl, ?_, sa, _, _, _, rfl, rfl, hS, hat, .inl ⟨_, rfl, ?_⟩⟩⟩
    · rw [e2]
      exact e1
    generalize ns[(p % (ns.length : Nat)).toNat] = x
    refine ⟨_, rfl, _, _, rfl, rfl, _, rfl, ite2 (fun e => ?_) (fun e => ?_)⟩
    · refine ⟨_, rfl, _, _, rfl, rfl, .inl ⟨by decide, by decide⟩, _, _, rfl, rfl, ?_⟩
      refine ⟨_, rfl, rfl, _, rfl, ite2 (fun e => ⟨_, rfl, _, rfl, sa, _, rfl, .inl hS, _, _, rfl, rfl, _, rfl, ite2 (fun e => ⟨_, rfl, ⟨_, _, rfl, rfl, ⟨by decide, by decide, by decide⟩, _, _, rfl, rfl, _, rfl, ite2 (fun e => ?_) (fun e => ?_)⟩⟩) (fun e => iteF ?_)⟩) (fun e => iteF ?_)⟩
      · exact ⟨_, rfl, _, _, rfl, rfl, ⟨by decide, by decide, by decide⟩, _, _, rfl, rfl, q _⟩
      all_goals exact ⟨_, rfl, _, rfl, _, _, rfl, rfl, .inr ⟨by decide, by decide⟩, _, _, rfl, rfl, _, rfl, _, _, rfl, q⟩
    · refine ⟨_, rfl, rfl, _, rfl, ite2 (fun e => ⟨_, rfl, _, rfl, sa, _, rfl, .inl hS, _, _, rfl, rfl, _, rfl, ite2 (fun e => ⟨_, rfl, ⟨_, _, rfl, rfl, ⟨by decide, by decide, by decide⟩, _, _, rfl, rfl, _, rfl, ite2 (fun e => ?_) (fun e => ?_)⟩⟩) (fun e => iteF ?_)⟩) (fun e => iteF ?_)⟩
      · exact ⟨_, rfl, _, _, rfl, rfl, ⟨by decide, by decide, by decide⟩, _, _, rfl, rfl, q _⟩
      all_goals exact ⟨_, rfl, _, rfl, _, _, rfl, rfl, .inr ⟨by decide, by decide⟩, _, _, rfl, rfl, _, rfl, _, _, rfl, q⟩
  · refine ⟨_, rfl, _, _, rfl, rfl, _, rfl, ite2 (fun e => ?_) (fun e => ?_)⟩
    · refine ⟨_, rfl, _, _, rfl, rfl, .inl ⟨by decide, by decide⟩, _, _, rfl, rfl, ?_⟩
      refine ⟨_, rfl, rfl, _, rfl, ite2 (fun e => ⟨_, rfl, _, rfl, sa, _, rfl, .inl hS, _, _, rfl, rfl, _, rfl, ite2 (fun e => ⟨_, rfl, ⟨_, _, rfl, rfl, ⟨by decide, by decide, by decide⟩, _, _, rfl, rfl, _, rfl, ite2 (fun e => ?_) (fun e => ?_)⟩⟩) (fun e => iteF ?_)⟩) (fun e => iteF ?_)⟩
      · exact ⟨_, rfl, _, _, rfl, rfl, ⟨by decide, by decide, by decide⟩, _, _, rfl, rfl, q _⟩
      all_goals exact ⟨_, rfl, _, rfl, _, _, rfl, rfl, .inr ⟨by decide, by decide⟩, _, _, rfl, rfl, _, rfl, _, _, rfl, q⟩
    · refine ⟨_, rfl, rfl, _, rfl, ite2 (fun e => ⟨_, rfl, _, rfl, sa, _, rfl, .inl hS, _, _, rfl, rfl, _, rfl, ite2 (fun e => ⟨_, rfl, ⟨_, _, rfl, rfl, ⟨by decide, by decide, by decide⟩, _, _, rfl, rfl, _, rfl, ite2 (fun e => ?_) (fun e => ?_)⟩⟩) (fun e => iteF ?_)⟩) (fun e => iteF ?_)⟩
      · exact ⟨_, rfl, _, _, rfl, rfl, ⟨by decide, by decide, by decide⟩, _, _, rfl, rfl, q _⟩
      all_goals exact ⟨_, rfl, _, rfl, _, _, rfl, rfl, .inr ⟨by decide, by decide⟩, _, _, rfl, rfl, _, rfl, _, _, rfl, q⟩
theorem ok_pool {c0 : CalR P w K mg base "_law_rest" 2 ["script", "place", "fills"] (spRest K)} (D : Df K mg "_law_pool" sPool ["script"]) : CalR P w K mg base "_law_pool" 3 ["script"] (spPool K) := by
  refine calR_ok D scPool (fun vs H Q E ⟨sa, ns, h, _⟩ => by rw [h]; rfl) (fun f cdv A outer s H vs Q E hr ⟨sa, ns, hv, hS, hl, q⟩ => ?_)
  subst hv
  exact ⟨_, pss_one (ps_ret (pe_lst (pa_cons (pv 0) (pa_cons pe_int (pa_cons (pe_cal c0 (hr.mono (by decide)) (pa_cons (pv 0) (pa_cons pe_int (pa_cons pe_int pa_nil)))) (pa_cons pe_int pa_nil)))))),
    _, rfl, _, rfl, sa, _, _, ns, rfl, hS, hl, fun r => ⟨sz (by show 4 ≤ 16777216; decide), fun p n => q r p n⟩⟩
theorem ok_draw {c0 : CalR P w K mg base "_law_rest" 2 ["script", "place", "fills"] (spRest K)} (D : Df K mg "_law_draw" sDraw ["pool", "limit"]) (mi : mg "int" = none) : CalR P w K mg base "_law_draw" 3 ["pool", "limit"] (spDraw K) := by
  refine calR_ok D scDraw (fun vs H Q E ⟨a, sa, l, p1, p2, p3, ns, h, _⟩ => by rw [h]; rfl) (fun f cdv A outer s H vs Q E hr ⟨a, sa, l, p1, p2, p3, ns, hv, hA, hS, hl, h0, h1, q⟩ => ?_)
  subst hv
  have nd := scDraw.nd
  refine ⟨_, pss_cons (ps_if (pt_cmpR op_le (pe_ix ix_list (pv 0) pe_int (fun _ _ => rfl)) pe_int (nomark _))
      (pss_cons (ps_asg (pe_op op_add (pe_ix ix_list (pv 0) pe_int (fun _ _ => rfl)) pe_int) (pg_sub (pv 0) pe_int set_list))
      (pss_one (ps_asg (pe_cal c0 (hr.mono (by decide)) (pa_cons (pe_ix ix_list (pv 0) pe_int (fun _ _ => rfl)) (pa_cons (pe_ix ix_list (pv 0) pe_int (fun _ _ => rfl)) (pa_cons (pe_ix ix_list (pv 0) pe_int (fun _ _ => rfl)) pa_nil)))) (pg_sub (pv 0) pe_int set_list)))) pss_nil)
    (pss_cons (ps_set (i := 2) nd rfl (.inl rfl) (pe_op op_mod (pe_callTy call_int1 (by rfl) mi boot_int' (pa_cons (pe_ix ix_list (pv 0) pe_int (fun _ _ => rfl)) pa_nil)) (pv 1)))
    (pss_cons (ps_asg (pe_op op_fdiv (pe_callTy call_int1 (by rfl) mi boot_int' (pa_cons (pe_ix ix_list (pv 0) pe_int (fun _ _ => rfl)) pa_nil)) (pv 1)) (pg_sub (pv 0) pe_int set_list))
    (pss_one (ps_ret (pv 2))))), ?_⟩
  refine ⟨.ref a, rfl, a, _, 2, _, rfl, rfl, .inl (.inl hA), rfl, _, _, rfl, rfl, _, rfl, ite2 (fun e => ?_) (fun e => ?_)⟩
  · refine ⟨.ref a, rfl, a, _, 3, _, rfl, rfl, .inl (.inl hA), rfl, _, _, rfl, rfl, .ref a, rfl, a, _, 3, 3, rfl, rfl, hA, rfl, ?_⟩
    have hS1 := sqL_upd (o := .lst [.ref sa, .int p1, .int p2, .int (p3 + 1)]) hS hA
    refine ⟨.ref a, rfl, a, _, 0, _, rfl, rfl, .inl (.inl upd_same), rfl, .ref a, rfl, a, _, 1, _, rfl, rfl, .inl (.inl upd_same), rfl, .ref a, rfl, a, _, 3, _, rfl, rfl, .inl (.inl upd_same), rfl, sa, _, _, ns, rfl, hS1, hl, fun r => ?_⟩
    refine ⟨.ref a, rfl, a, _, 2, 2, rfl, rfl, upd_same, rfl, ?_⟩
    refine ⟨.ref a, rfl, a, _, 2, _, rfl, rfl, .inl (.inl upd_same), rfl, .inl ⟨_, rfl, _, rfl, _, _, rfl, rfl, h0, ?_⟩⟩
    refine ⟨.ref a, rfl, a, _, 2, _, rfl, rfl, .inl (.inl upd_same), rfl, .inl ⟨_, rfl, _, rfl, _, _, rfl, rfl, ⟨h0, h1⟩, .ref a, rfl, a, _, 2, 2, rfl, rfl, upd_same, rfl, ?_⟩⟩
    refine ⟨_, rfl, ?_⟩
    rw [upd_upd, upd_upd]
    exact q _ _ _ (Int.emod_nonneg _ (by omega)) (Int.emod_lt_of_pos _ h0)
  · refine ⟨.ref a, rfl, a, _, 2, _, rfl, rfl, .inl (.inl hA), rfl, .inl ⟨_, rfl, _, rfl, _, _, rfl, rfl, h0, ?_⟩⟩
    refine ⟨.ref a, rfl, a, _, 2, _, rfl, rfl, .inl (.inl hA), rfl, .inl ⟨_, rfl, _, rfl, _, _, rfl, rfl, ⟨h0, h1⟩, .ref a, rfl, a, _, 2, 2, rfl, rfl, hA, rfl, ?_⟩⟩
    exact ⟨_, rfl, q _ _ _ (Int.emod_nonneg _ (by omega)) (Int.emod_lt_of_pos _ h0)⟩
end
end My
namespace My
open PySem PySem.Spec PyProof.Rows L2 TL
/-! ### encodings -/
abbrev eI (ns : List Int) : D := .list (ns.map .int)
abbrev eT (t : List (List Int)) : D := .list (t.map eI)
def eO : Option Int → D
  | none => .none
  | some i => .int i
/-! ### placed -/
def placedN : List Int → Int → List Int × Option Int
  | [], n => ([n], none)
  | x :: r, n => if n < x then (n :: r, some x) else (x :: (placedN r n).1, (placedN r n).2)
theorem placed_at : ∀ (row : List Int) (n : Int) (i : Nat) (x : Int), (∀ j y, j < i → row[j]? = some y → ¬ n < y) → row[i]? = some x → n < x → placedN row n = (row.take i ++ n :: row.drop (i + 1), some x)
  | [], _, _, _, _, h, _ => by simp at h
  | y :: r, n, 0, x, _, h, hx => by
    have e : y = x := by simpa using h
    subst e
    simp [placedN, hx]
  | y :: r, n, i + 1, x, hp, h, hx => by
    have h0 : ¬ n < y := hp 0 y (by omega) (by simp)
    have ih := placed_at r n i x (fun j z hj hz => hp (j + 1) z (by omega) (by simpa using hz)) (by simpa using h) hx
    simp [placedN, h0, ih]
theorem placed_no : ∀ (row : List Int) (n : Int), (∀ (j : Nat) (y : Int), row[j]? = some y → ¬ n < y) → placedN row n = (row ++ [n], none)
  | [], _, _ => rfl
  | y :: r, n, hp => by
    have h0 : ¬ n < y := hp 0 y (by simp)
    have ih := placed_no r n (fun j z hz => hp (j + 1) z (by simpa using hz))
    simp [placedN, h0, ih]
def pPlaced : Prom := fun cs Q => ∃ (row : List Int) (n : Int), cs = [.sh (eI row), .sh (.int n)] ∧ row.length ≤ 1000 ∧ Q (.tuple [eI (placedN row n).1, eO (placedN row n).2])
abbrev s_placed : Stmt := topS 1
theorem sc_placed : FnScope ["row", "number", "at", "other"] ["row", "number"] (defScope s_placed) := ⟨rfl, rfl, rfl, by decide +kernel, rfl, by decide +kernel, by decide +kernel⟩
section
variable {P : Program} {w : World} {K : Fg} {mg : Str → Option Value} {base : Heap}
theorem ok_placed (D : Df K mg "placed" s_placed ["row", "number"]) (m_enumerate : mg "enumerate" = none) : Cal P w K mg base "placed" 1 ["row", "number"] pPlaced := by
  have nd := sc_placed.nd
  refine cal_ok D sc_placed (fun cs Q ⟨row, n, h, _⟩ => by rw [h]; rfl) (fun f cdv A outer s H E hr => ⟨_, by exact
(vss_cons (vs_for (vi_enu (vc_var (pv 0)) (by rfl) m_enumerate) (vn_tup (vns_cons (vn_name (n := 2) nd rfl) (vns_cons (vn_name (n := 3) nd rfl) vns_nil))).vg
      (vss_one (vs_if (vb_cmp op_gt ok_gt (se_var (pv 3)) (se_var (pv 1)))
        (vss_one (vs_ret (vc_tup (vl_cons (vc_add (vc_add (vc_sl (se_var (pv 0)) vo_none (vo_some (se_var (pv 2)))).se (vc_lst (vl_cons (vc_var (pv 1)) vl_nil)).se).se (vc_sl (se_var (pv 0)) (vo_some (vc_add (se_var (pv 2)) vc_int.se).se) vo_none).se) (vl_cons (vc_var (pv 3)) vl_nil)))))
        vss_nil)))
    (vss_one (vs_ret (vc_tup (vl_cons (vc_add (se_var (pv 0)) (vc_lst (vl_cons (vc_var (pv 1)) vl_nil)).se) (vl_cons vc_non vl_nil))))))
    , fun cs Q ⟨row, n, hc, hl, q⟩ => ?_⟩)
  subst hc
  refine ⟨fun i ρ => ∃ c2 c3, ρ = [.sh (eI row), .sh (.int n), c2, c3] ∧ ∀ j y, j < i → row[j]? = some y → ¬ n < y, ⟨_, _, rfl, fun j y h => absurd h (by omega)⟩, fun i x ρ hx ⟨c2, c3, hρ, hp⟩ => ?_, fun ρ ⟨c2, c3, hρ, hp⟩ => ?_⟩
  · subst hρ
    obtain ⟨d, hd, rfl⟩ := enu_get hx
    obtain ⟨z, hz, rfl⟩ := map_get hd
    have hi := lt_of_get hz
    refine ⟨rfl, rfl, ite2 (fun e => ?_) (fun e => ?_)⟩
    · have e1 : n < z := of_decide_eq_true e
      have b1 : (slD (row.map PyData.int) none (some (i : Int))).length ≤ 1000 := by rw [slD_take]; simp; omega
      have b2 : (slD (row.map PyData.int) (some ((i : Int) + 1)) none).length ≤ 1000 := by rw [slD_drop1]; simp; omega
      refine ⟨sz (by simp), sz (by simp; omega), sz (by simp at b1 b2 ⊢; omega), sz (by simp), ?_⟩
      show Q _
      rw [placed_at row n i z hp hz e1] at q
      rw [slD_take, slD_drop1]
      simpa [eI, eO, List.map_take, List.map_drop] using q
    · exact ⟨_, _, rfl, fun j y hj hy => by
        rcases Nat.lt_succ_iff_lt_or_eq.mp hj with h | h
        · exact hp j y h hy
        · subst h
          rw [hz] at hy
          cases hy
          exact fun h => e (decide_eq_true h)⟩
  · subst hρ
    rw [enuD_len, List.length_map] at hp
    refine ⟨sz (by simp), sz (by simp; omega), sz (by simp), ?_⟩
    show Q _
    rw [placed_no row n fun j y h => hp j y (lt_of_get h) h] at q
    simpa [eI, eO, List.map_take, List.map_drop] using q
end
end My
namespace My
open PySem PySem.Spec PyProof.Rows L2 TL
/-! ### inserted -/
def insN : List (List Int) → Int → List (List Int) × Nat
  | [], n => ([[n]], 0)
  | row :: rest, n => match (placedN row n).2 with
    | none => ((placedN row n).1 :: rest, 0)
    | some m => ((placedN row n).1 :: (insN rest m).1, (insN rest m).2 + 1)
def pInserted : Prom := fun cs Q => ∃ (t : List (List Int)) (n : Int), cs = [.sh (eT t), .sh (.int n)] ∧ t.length ≤ 1000 ∧ (∀ row ∈ t, row.length ≤ 999) ∧ Q (.tuple [eT (insN t n).1, .int (insN t n).2])
abbrev s_inserted : Stmt := topS 2
theorem sc_inserted : FnScope ["table", "number", "found", "at", "row", "new", "other"] ["table", "number"] (defScope s_inserted) := ⟨rfl, rfl, rfl, by decide +kernel, rfl, by decide +kernel, by decide +kernel⟩
section
variable {P : Program} {w : World} {K : Fg} {mg : Str → Option Value} {base : Heap}
theorem ok_inserted (D : Df K mg "inserted" s_inserted ["table", "number"]) (c_placed : Cal P w K mg base "placed" 1 ["row", "number"] pPlaced) (m_enumerate : mg "enumerate" = none) (m_list : mg "list" = none) (m_len : mg "len" = none) : Cal P w K mg base "inserted" 2 ["table", "number"] pInserted := by
  have nd := sc_inserted.nd
  refine cal_ok D sc_inserted (fun cs Q ⟨t, n, h, _⟩ => by rw [h]; rfl) (fun f cdv A outer s H E hr => ⟨_, by exact
(vss_cons (vs_set (n := 2) nd rfl (vc_lst vl_nil))
    (vss_cons (vs_for (vi_enu (vc_var (pv 0)) (by rfl) m_enumerate) (vn_tup (vns_cons (vn_name (n := 3) nd rfl) (vns_cons (vn_name (n := 4) nd rfl) vns_nil))).vg
      (vss_cons (vs_asg (vc_cal c_placed (hr.mono (by decide)) (va_cons (vc_var (pv 4)) (va_cons (vc_var (pv 1)) va_nil))) (vn_tup (vns_cons (vn_name (n := 5) nd rfl) (vns_cons (vn_name (n := 1) nd rfl) vns_nil))).vg)
      (vss_cons (vs_append 2 (pv 2) (vc_var (pv 5)))
      (vss_one (vs_if (vb_cmp op_isN ok_is (se_var (pv 1)) vc_non.se)
        (vss_one (vs_ret (vc_tup (vl_cons (vc_add (se_var (pv 2)) (vc_lc (own := [("other", 6)]) nd (vj_seq (vc_sl (se_var (pv 0)) (vo_some (vc_add (se_var (pv 3)) vc_int.se).se) vo_none).se) (blk_ok (N := ["table", "number", "found", "at", "row", "new", "other"]) (sc := defScope s_inserted) (by decide +kernel)) (fun _ _ _ _ _ => (vn_name (n := 6) nd rfl)) (fun _ _ _ _ _ => vts_nil) (fun _ _ _ _ _ => (vc_list (se_var (pv 6)) (by rfl) m_list))).se) (vl_cons (vc_var (pv 3)) vl_nil)))))
        vss_nil)))))
    (vss_one (vs_ret (vc_tup (vl_cons (vc_add (se_var (pv 2)) (vc_lst (vl_cons (vc_lst (vl_cons (vc_var (pv 1)) vl_nil)) vl_nil)).se) (vl_cons (vc_len (se_var (pv 0)) (by rfl) m_len) vl_nil)))))))
    , fun cs Q ⟨t, n, hc, hl, hrow, q⟩ => ?_⟩)
  subst hc
  refine ⟨sz (by simp), ?_⟩
  refine ⟨fun i ρ => ∃ (m : Int) (done : List (List Int)) (c3 c4 c5 c6 : C), ρ = [.sh (eT t), .sh (.int m), .ol (done.map eI), c3, c4, c5, c6] ∧ done.length = i ∧ insN t n = (done ++ (insN (t.drop i) m).1, i + (insN (t.drop i) m).2),
    ⟨n, [], _, _, _, _, rfl, rfl, by simp⟩, fun i x ρ hx ⟨m, done, c3, c4, c5, c6, hρ, hd, he⟩ => ?_, fun ρ ⟨m, done, c3, c4, c5, c6, hρ, hd, he⟩ => ?_⟩
  · subst hρ
    obtain ⟨d, hd', rfl⟩ := enu_get hx
    obtain ⟨row, hz, rfl⟩ := map_get hd'
    have hi := lt_of_get hz
    have hr' := hrow row (List.mem_of_getElem? hz)
    have hdrop : t.drop i = row :: t.drop (i + 1) := by
      rw [List.drop_eq_getElem_cons hi]
      congr 1
      rw [List.getElem?_eq_getElem hi] at hz
      exact Option.some.inj hz
    refine ⟨rfl, rfl, row, m, rfl, by omega, rfl, rfl, sz' (by simp; omega), by simp, ?_⟩
    rw [hdrop] at he
    cases hp : (placedN row m).2 with
    | none =>
      refine ⟨sz (by rw [slD_drop1]; simp; omega), ?_⟩
      refine lc_all eI eI (t.drop (i + 1)) (by rw [slD_drop1, List.map_drop]) (fun a ha k1 k2 h1 => iteT h1) ⟨sz (by simp; omega), sz (by simp), ?_⟩
      show Q _
      have e1 : insN t n = (done ++ ((placedN row m).1 :: t.drop (i + 1)), i + 0) := by
        rw [he]; simp [insN, hp]
      rw [e1] at q
      simpa [eI, eT] using q
    | some z =>
      refine ⟨z, done ++ [(placedN row m).1], _, _, _, _, by rw [List.map_append]; rfl, by simp [hd], ?_⟩
      rw [he]
      simp [insN, hp]
      omega
  · subst hρ
    rw [enuD_len, List.length_map] at hd he
    rw [List.drop_length] at he
    refine ⟨sz (by simp), sz (by simp), sz (by simp; omega), fun _ => ⟨sz (by simp), ?_⟩⟩
    show Q _
    rw [he] at q
    simpa [eI, eT, insN] using q
end
end My
namespace My
open PySem PySem.Spec PyProof.Rows L2 TL
/-! ### tables_of -/
theorem placedN_len : ∀ (row : List Int) (n : Int), (placedN row n).1.length ≤ row.length + 1
  | [], _ => by simp [placedN]
  | x :: r, n => by
    have ih := placedN_len r n
    unfold placedN
    split
    · simp
    · simp; omega
theorem insN_le : ∀ (t : List (List Int)) (n : Int), (insN t n).2 ≤ t.length
  | [], _ => by simp [insN]
  | row :: r, n => by
    unfold insN
    split
    · simp
    · rename_i m _
      have ih := insN_le r m
      simp; omega
theorem insN_len : ∀ (t : List (List Int)) (n : Int), (insN t n).1.length = if (insN t n).2 = t.length then t.length + 1 else t.length
  | [], _ => by simp [insN]
  | row :: r, n => by
    unfold insN
    split
    · simp
    · rename_i m _
      have ih := insN_len r m
      have h := insN_le r m
      simp only [List.length_cons, ih]
      split <;> split <;> omega
theorem insN_rows {M : Nat} : ∀ (t : List (List Int)) (n : Int), (∀ row ∈ t, row.length ≤ M) → ∀ row ∈ (insN t n).1, row.length ≤ M + 1
  | [], n, _, row, hm => by
    have : row = [n] := by simpa [insN] using hm
    subst this
    simp
  | r0 :: r, n, h, row, hm => by
    have h0 := h r0 List.mem_cons_self
    have h1 : ∀ row ∈ r, row.length ≤ M := fun row m => h row (List.mem_cons_of_mem _ m)
    unfold insN at hm
    split at hm
    · rcases List.mem_cons.mp hm with rfl | hm
      · have := placedN_len r0 n; omega
      · have := h1 row hm; omega
    · rename_i m _
      rcases List.mem_cons.mp hm with rfl | hm
      · have := placedN_len r0 n; omega
      · exact insN_rows r m h1 row hm
def sec0 (s : List (List Int)) (k : Nat) : List (List Int) := if k = s.length then s ++ [[]] else s
def secN (s : List (List Int)) (k : Nat) (x : Int) : List (List Int) := (sec0 s k).take k ++ [(sec0 s k).getD k [] ++ [x]] ++ (sec0 s k).drop (k + 1)
def tabStep (st : List (List Int) × List (List Int)) (p : Int × Int) : List (List Int) × List (List Int) := ((insN st.1 p.2).1, secN st.2 (insN st.1 p.2).2 p.1)
def tabN (qs : List (Int × Int)) : List (List Int) × List (List Int) := qs.foldl tabStep ([], [])
structure TabOk (st : List (List Int) × List (List Int)) (i : Nat) : Prop where
  l1 : st.1.length ≤ i
  l2 : st.2.length = st.1.length
  r1 : ∀ row ∈ st.1, row.length ≤ i
  r2 : ∀ row ∈ st.2, row.length ≤ i
theorem sec0_lt {s : List (List Int)} {k : Nat} (h : k ≤ s.length) : k < (sec0 s k).length := by
  unfold sec0
  split
  · simp; omega
  · omega
theorem sec0_len (s : List (List Int)) (k : Nat) : (sec0 s k).length = if k = s.length then s.length + 1 else s.length := by
  unfold sec0
  split <;> simp
theorem sec0_rows {M : Nat} {s : List (List Int)} {k : Nat} (h : ∀ row ∈ s, row.length ≤ M) : ∀ row ∈ sec0 s k, row.length ≤ M := by
  unfold sec0
  split
  · intro row m
    rcases List.mem_append.mp m with m | m
    · exact h row m
    · have : row = [] := by simpa using m
      subst this; simp
  · exact h
theorem tab_step {st : List (List Int) × List (List Int)} {i : Nat} {p : Int × Int} (h : TabOk st i) : TabOk (tabStep st p) (i + 1) := by
  have hk := insN_le st.1 p.2
  have hl := insN_len st.1 p.2
  have h2 : (insN st.1 p.2).2 ≤ st.2.length := by rw [h.l2]; exact hk
  have hs := sec0_lt h2
  have hsl := sec0_len st.2 (insN st.1 p.2).2
  refine ⟨?_, ?_, ?_, ?_⟩
  · show (insN st.1 p.2).1.length ≤ i + 1
    have := h.l1
    rw [hl]; split <;> omega
  · show (secN st.2 (insN st.1 p.2).2 p.1).length = (insN st.1 p.2).1.length
    unfold secN
    rw [hl, ← h.l2]
    simp only [List.length_append, List.length_take, List.length_drop, List.length_cons, List.length_nil]
    rw [hsl] at hs ⊢
    split at hs <;> split <;> omega
  · exact insN_rows st.1 p.2 h.r1
  · show ∀ row ∈ secN st.2 (insN st.1 p.2).2 p.1, row.length ≤ i + 1
    have hr := sec0_rows (k := (insN st.1 p.2).2) h.r2
    intro row m
    unfold secN at m
    rcases List.mem_append.mp m with m | m
    · rcases List.mem_append.mp m with m | m
      · have := hr row (List.mem_of_mem_take m); omega
      · have e : row = (sec0 st.2 (insN st.1 p.2).2).getD (insN st.1 p.2).2 [] ++ [p.1] := by simpa using m
        rw [List.getD_eq_getElem?_getD, List.getElem?_eq_getElem hs] at e
        have := hr _ (List.getElem_mem hs)
        rw [e]
        simp
        exact this
    · have := hr row (List.mem_of_mem_drop m); omega
theorem tab_ok (qs : List (Int × Int)) : ∀ i, TabOk ((qs.take i).foldl tabStep ([], [])) i
  | 0 => ⟨by simp, rfl, by simp, by simp⟩
  | i + 1 => by
    by_cases hi : i < qs.length
    · rw [List.take_add_one, List.foldl_append, List.getElem?_eq_getElem hi]
      exact tab_step (tab_ok qs i)
    · have h := tab_ok qs i
      rw [List.take_of_length_le (by omega)] at h ⊢
      exact ⟨by have := h.l1; omega, h.l2, fun r m => by have := h.r1 r m; omega, fun r m => by have := h.r2 r m; omega⟩
def pTables : Prom := fun cs Q => ∃ ps : List (Int × Int), cs = [.sh (.list (ps.map eP))] ∧ ps.length ≤ 900 ∧ ∀ qs : List (Int × Int), qs.Perm ps → (qs.Pairwise fun p q => ¬ lexP q p = true) → Q (.tuple [eT (tabN qs).1, eT (tabN qs).2])
abbrev s_tables_of : Stmt := topS 3
theorem sc_tables_of : FnScope ["points", "first", "second", "x", "y", "at"] ["points"] (defScope s_tables_of) := ⟨rfl, rfl, rfl, by decide +kernel, rfl, by decide +kernel, by decide +kernel⟩
section
variable {P : Program} {w : World} {K : Fg} {mg : Str → Option Value} {base : Heap}
theorem ok_tables (D : Df K mg "tables_of" s_tables_of ["points"]) (c_inserted : Cal P w K mg base "inserted" 2 ["table", "number"] pInserted) (m_sorted : mg "sorted" = none) (m_len : mg "len" = none) : Cal P w K mg base "tables_of" 3 ["points"] pTables := by
  have nd := sc_tables_of.nd
  refine cal_ok D sc_tables_of (fun cs Q ⟨ps, h, _⟩ => by rw [h]; rfl) (fun f cdv A outer s H E hr => ⟨_, by exact
(vss_cons (vs_set (n := 1) nd rfl (vc_lst vl_nil))
    (vss_cons (vs_set (n := 2) nd rfl (vc_lst vl_nil))
    (vss_cons (vs_frz 1 (vs_for (vi_seq (vc_sortP (se_var (pv 0)) (by rfl) m_sorted)) (vn_tup (vns_cons (vn_name (n := 3) nd rfl) (vns_cons (vn_name (n := 4) nd rfl) vns_nil))).vg
      (vss_cons (vs_frz 1 (vs_asg (vc_cal c_inserted (hr.mono (by decide)) (va_cons (vc_var (pv 1)) (va_cons (vc_var (pv 4)) va_nil))) (vn_tup (vns_cons (vn_name (n := 1) nd rfl) (vns_cons (vn_name (n := 5) nd rfl) vns_nil))).vg))
      (vss_cons (vs_if (vb_cmp (op_eqA hr.units) ok_eq (se_var (pv 5)) (vc_len (se_var (pv 2)) (by rfl) m_len).se)
        (vss_one (vs_set (n := 2) nd rfl (vc_add (se_var (pv 2)) (vc_lst (vl_cons (vc_lst vl_nil) vl_nil)).se)))
        vss_nil)
      (vss_one (vs_set (n := 2) nd rfl (vc_add (vc_add (vc_sl (se_var (pv 2)) vo_none (vo_some (se_var (pv 5)))).se (vc_lst (vl_cons (vc_add (vc_ix (se_var (pv 2)) (se_var (pv 5))).se (vc_lst (vl_cons (vc_var (pv 3)) vl_nil)).se) vl_nil)).se).se (vc_sl (se_var (pv 2)) (vo_some (vc_add (se_var (pv 5)) vc_int.se).se) vo_none).se)))))))
    (vss_one (vs_frz 2 (vs_frz 1 (vs_ret (vc_tup (vl_cons (vc_var (pv 1)) (vl_cons (vc_var (pv 2)) vl_nil))))))))))
    , fun cs Q ⟨ps, hc, hl, q⟩ => ?_⟩)
  subst hc
  refine ⟨sz (by simp), sz (by simp), ps, rfl, fun qs hq hs => ?_⟩
  have q := q qs hq hs
  have hql : qs.length ≤ 900 := by rw [hq.length_eq]; exact hl
  refine ⟨fun i ρ => ∃ c3 c4 c5, ρ = [.sh (.list (ps.map eP)), .sh (eT ((qs.take i).foldl tabStep ([], [])).1), .ol (((qs.take i).foldl tabStep ([], [])).2.map eI), c3, c4, c5], ⟨_, _, _, rfl⟩, fun i x ρ hx ⟨c3, c4, c5, hρ⟩ => ?_, fun ρ ⟨c3, c4, c5, hρ⟩ => ?_⟩
  · subst hρ
    obtain ⟨p, hz, rfl⟩ := map_get hx
    have hi := lt_of_get hz
    have tk := tab_ok qs i
    have stp : (qs.take (i + 1)).foldl tabStep ([], []) = tabStep ((qs.take i).foldl tabStep ([], [])) p := by
      rw [List.take_add_one, List.foldl_append, hz]; rfl
    generalize hst : (qs.take i).foldl tabStep ([], []) = st at tk stp
    refine ⟨rfl, rfl, st.1, p.2, rfl, by have := tk.l1; omega, fun row m => by have := tk.r1 row m; omega, rfl, rfl, ?_⟩
    have hk := insN_le st.1 p.2
    rw [← tk.l2] at hk
    have hlt := sec0_lt hk
    have hr0 := sec0_rows (k := (insN st.1 p.2).2) tk.r2
    have hsl : (sec0 st.2 (insN st.1 p.2).2).length ≤ 1000 := by
      have := tk.l1
      have := tk.l2
      rw [sec0_len]; split <;> omega
    generalize hkk : (insN st.1 p.2).2 = k at hk hlt hr0 hsl stp ⊢
    have hat : atI ((sec0 st.2 k).map eI) (k : Int) = some (eI ((sec0 st.2 k).getD k [])) := by
      apply atI_nat
      rw [List.getElem?_map, List.getD_eq_getElem?_getD, List.getElem?_eq_getElem hlt]
      rfl
    have hrk : ((sec0 st.2 k).getD k []).length ≤ i := by
      rw [List.getD_eq_getElem?_getD, List.getElem?_eq_getElem hlt]
      exact hr0 _ (List.getElem_mem hlt)
    have b1 : (slD ((sec0 st.2 k).map eI) none (some (k : Int))).length ≤ 1000 := by rw [slD_take]; simp; omega
    have b2 : (slD ((sec0 st.2 k).map eI) (some ((k : Int) + 1)) none).length ≤ 1000 := by rw [slD_drop1]; simp; omega
    have e3 : slD ((sec0 st.2 k).map eI) none (some (k : Int)) ++ [PyData.list (((sec0 st.2 k).getD k []).map PyData.int ++ [.int p.1])] ++ slD ((sec0 st.2 k).map eI) (some ((k : Int) + 1)) none = (secN st.2 k p.1).map eI := by
      rw [slD_take, slD_drop1]
      simp [secN, eI, List.map_take, List.map_drop]
    have e4 : (tabStep st p).2 = secN st.2 k p.1 := by rw [← hkk]; rfl
    refine fun _ => itd (fun e => ?_) (fun e => ?_)
    · have e' : k = st.2.length := by
        have e : (k : Int) = ((st.2.map eI).length : Nat) := e
        rw [List.length_map] at e
        omega
      have e2 : st.2.map eI ++ [PyData.list []] = (sec0 st.2 k).map eI := by simp [sec0, e', eI]
      refine ⟨sz (by simp), sz (by simp), sz (by have := tk.l1; have := tk.l2; simp; omega), ?_⟩
      rw [e2]
      refine ⟨_, hat, sz (by simp), sz (by simp only [List.length_append, List.length_map, List.length_cons, List.length_nil] at *; omega), sz (by simp), sz (by simp only [List.length_append, List.length_map, List.length_cons, List.length_nil] at *; omega), sz (by simp only [List.length_append, List.length_map, List.length_cons, List.length_nil] at *; omega), ?_⟩
      refine ⟨.sh (.int p.1), .sh (.int p.2), .sh (.int k), ?_⟩
      rw [stp, e4, ← e3]
      rfl
    · have e' : ¬ k = st.2.length := fun h => e (by rw [List.length_map, h])
      have e2 : st.2.map eI = (sec0 st.2 k).map eI := by simp [sec0, e']
      rw [e2]
      refine ⟨_, hat, sz (by simp), sz (by simp only [List.length_append, List.length_map, List.length_cons, List.length_nil] at *; omega), sz (by simp), sz (by simp only [List.length_append, List.length_map, List.length_cons, List.length_nil] at *; omega), sz (by simp only [List.length_append, List.length_map, List.length_cons, List.length_nil] at *; omega), ?_⟩
      refine ⟨.sh (.int p.1), .sh (.int p.2), .sh (.int k), ?_⟩
      rw [stp, e4, ← e3]
      rfl
  · subst hρ
    refine ⟨sz (by simp), ?_⟩
    show Q _
    rw [List.length_map, List.take_length] at *
    exact q
end
end My
namespace My
open PySem PySem.Spec PyProof.Rows L2 TL
/-! ### shape, columns, count -/
def shapeN (t : List (List Int)) : List Int := t.map fun r => (r.length : Int)
def pShape : Prom := fun cs Q => ∃ t : List (List Int), cs = [.sh (eT t)] ∧ t.length ≤ 1000 ∧ Q (eI (shapeN t))
def colAt (told : List Int) (i : Nat) : Int := ((told.filter fun l => decide ((i : Int) < l)).length : Int)
def colN (told : List Int) : List Int := match told with
  | [] => []
  | l :: r => (List.range l.toNat).map fun i => colAt (l :: r) i
def pColumns : Prom := fun cs Q => ∃ told : List Int, cs = [.sh (eI told)] ∧ told.length ≤ 1000 ∧ (∀ l ∈ told, 0 ≤ l ∧ l ≤ 1000) ∧ Q (eI (colN told))
abbrev s_shape : Stmt := topS 4
theorem sc_shape : FnScope ["table", "row"] ["table"] (defScope s_shape) := ⟨rfl, rfl, rfl, by decide +kernel, rfl, by decide +kernel, by decide +kernel⟩
abbrev s_columns : Stmt := topS 5
theorem sc_columns : FnScope ["told", "length", "at"] ["told"] (defScope s_columns) := ⟨rfl, rfl, rfl, by decide +kernel, rfl, by decide +kernel, by decide +kernel⟩
section
variable {P : Program} {w : World} {K : Fg} {mg : Str → Option Value} {base : Heap}
theorem ok_shape (D : Df K mg "shape" s_shape ["table"]) (m_len : mg "len" = none) : Cal P w K mg base "shape" 1 ["table"] pShape := by
  have nd := sc_shape.nd
  refine cal_ok D sc_shape (fun cs Q ⟨ps, h, _⟩ => by rw [h]; rfl) (fun f cdv A outer s H E hr => ⟨_, by exact
(vss_one (vs_ret (vc_lc (own := [("row", 1)]) nd (vj_seq (se_var (pv 0))) (blk_ok (N := ["table", "row"]) (sc := defScope s_shape) (by decide +kernel)) (fun _ _ _ _ _ => (vn_name (n := 1) nd rfl)) (fun _ _ _ _ _ => vts_nil) (fun _ _ _ _ _ => (vc_len (se_var (pv 1)) (by rfl) m_len)))))
    , fun cs Q ⟨t, hc, hl, q⟩ => ?_⟩)
  subst hc
  refine ⟨sz (by simp; omega), ?_⟩
  refine lc_all eI (fun r => .int (r.length : Int)) t rfl (fun a ha k1 k2 h1 => iteT fun _ => by rw [List.length_map]; exact h1) ?_
  show Q _
  simpa [shapeN, eI, Function.comp_def] using q
theorem ok_columns (D : Df K mg "columns" s_columns ["told"]) (m_len : mg "len" = none) (m_range : mg "range" = none) : Cal P w K mg base "columns" 1 ["told"] pColumns := by
  have nd := sc_columns.nd
  refine cal_ok D sc_columns (fun cs Q ⟨ps, h, _⟩ => by rw [h]; rfl) (fun f cdv A outer s H E hr => ⟨_, by exact
(vss_one (vs_ret (vc_if (vb_tru (se_var (pv 0))) (vc_lc (own := [("at", 2)]) nd (vi_rng1 (vc_ix (se_var (pv 0)) vc_int.se).se (by rfl) m_range).vj (blk_ok (N := ["told", "length", "at"]) (sc := defScope s_columns) (by decide +kernel)) (fun _ _ _ _ _ => (vn_name (n := 2) nd rfl)) (fun _ _ _ _ _ => vts_nil) (fun _ _ _ _ _ => (vc_len (vc_lc (own := [("length", 1)]) nd (vj_seq (se_var (pv 0))) (blk_ok (N := ["told", "length", "at"]) (sc := relS _ (defScope s_columns)) (by decide +kernel)) (fun _ _ _ _ _ => (vn_name (n := 1) nd rfl)) (fun _ _ _ _ _ => (vts_one (vb_cmp op_gt ok_gt (se_var (pv 1)) (se_var (pv 2))))) (fun _ _ _ _ _ => (vc_var (pv 1)))).se (by rfl) m_len))) (vc_lst vl_nil))))
    , fun cs Q ⟨told, hc, hl, hb, q⟩ => ?_⟩)
  subst hc
  cases told with
  | nil => exact ⟨sz (by simp), q⟩
  | cons l r =>
    have hl0 := hb l List.mem_cons_self
    refine ⟨.int l, atI_nat (j := 0) rfl, by omega, by omega, sz (by simp [rngD]; omega), ?_⟩
    refine lc_all (fun i : Nat => .int (i : Int)) (fun i => .int (colAt (l :: r) i)) (List.range l.toNat) rng_map (fun i hi k1 k2 h1 => iteT ?_) ?_
    · refine ⟨sz (by simp at hl ⊢; omega), ?_⟩
      refine lc_map .int .int (fun x => decide ((i : Int) < x)) (l :: r) rfl (fun a ha k1 k2 h1 h2 => itd (fun e => h1 (decide_eq_true e)) fun e => h2 (decide_eq_false e)) ?_
      intro _
      rw [List.length_map]
      exact h1
    · show Q _
      simpa [colN, eI, Function.comp_def] using q
/-! count -/
def hookAt (told down : List Int) (r i : Nat) : Int := told.getD r 0 - i + down.getD i 0 - r - 1
def hookRow (told down : List Int) (r : Nat) (n : Nat) (h : Int) : Int := (List.range n).foldl (fun h i => h * hookAt told down r i) h
def hooksN (told : List Int) (n : Nat) : Int := (List.range n).foldl (fun h r => hookRow told (colN told) r (told.getD r 0).toNat h) 1
def factN (n : Nat) : Int := (List.range n).foldl (fun (w : Int) (i : Nat) => w * (2 + i)) 1
def countN (told : List Int) : Int := factN (told.sum + 1 - 2).toNat / hooksN told told.length
structure ShapeOk (told : List Int) : Prop where
  len : told.length ≤ 100
  pos : ∀ l ∈ told, 0 ≤ l ∧ l ≤ 100 ∧ l ≤ (colN told).length
  sum : told.sum ≤ 1000
  hk : 0 < hooksN told told.length
  lg : (hooksN told told.length).natAbs.log2 < 9000
def pCount : Prom := fun cs Q => ∃ told : List Int, cs = [.sh (eI told)] ∧ ShapeOk told ∧ Q (.int (countN told))
theorem colN_le (told : List Int) (i : Nat) : 0 ≤ (colN told).getD i 0 ∧ (colN told).getD i 0 ≤ told.length := by
  unfold colN
  cases told with
  | nil => simp
  | cons l r =>
    simp only
    rw [List.getD_eq_getElem?_getD, List.getElem?_map]
    cases h : (List.range l.toNat)[i]? with
    | none => simp; omega
    | some j =>
      simp only [Option.map_some, Option.getD_some, colAt]
      have := List.length_filter_le (fun x => decide ((j : Int) < x)) (l :: r)
      omega
abbrev s_count : Stmt := topS 6
theorem sc_count : FnScope ["told", "down", "ways", "number", "hooks", "row", "length", "at"] ["told"] (defScope s_count) := ⟨rfl, rfl, rfl, by decide +kernel, rfl, by decide +kernel, by decide +kernel⟩
theorem ok_count (D : Df K mg "count" s_count ["told"]) (c_columns : Cal P w K mg base "columns" 1 ["told"] pColumns) (m_sum : mg "sum" = none) (m_range : mg "range" = none) (m_enumerate : mg "enumerate" = none) : Cal P w K mg base "count" 2 ["told"] pCount := by
  have nd := sc_count.nd
  refine cal_ok D sc_count (fun cs Q ⟨ps, h, _⟩ => by rw [h]; rfl) (fun f cdv A outer s H E hr => ⟨_, by exact
(vss_cons (vs_set (n := 1) nd rfl (vc_cal c_columns (hr.mono (by decide)) (va_cons (vc_var (pv 0)) va_nil)))
    (vss_cons (vs_set (n := 2) nd rfl vc_int)
    (vss_cons (vs_for (vi_rng2 vc_int.se (vc_add (vc_sum (se_var (pv 0)) (by rfl) m_sum).se vc_int.se).se (by rfl) m_range) (vn_name (n := 3) nd rfl).vg
      (vss_one (vs_set (n := 2) nd rfl (vc_mul (se_var (pv 2)) (se_var (pv 3))))))
    (vss_cons (vs_set (n := 4) nd rfl vc_int)
    (vss_cons (vs_for (vi_enu (vc_var (pv 0)) (by rfl) m_enumerate) (vn_tup (vns_cons (vn_name (n := 5) nd rfl) (vns_cons (vn_name (n := 6) nd rfl) vns_nil))).vg
      (vss_one (vs_for (vi_rng1 (se_var (pv 6)) (by rfl) m_range) (vn_name (n := 7) nd rfl).vg
        (vss_one (vs_set (n := 4) nd rfl (vc_mul (se_var (pv 4)) (vc_sub (vc_sub (vc_add (vc_sub (se_var (pv 6)) (se_var (pv 7))).se (vc_ix (se_var (pv 1)) (se_var (pv 7))).se).se (se_var (pv 5))).se vc_int.se).se))))))
    (vss_one (vs_ret (vc_divW (se_var (pv 2)) (se_var (pv 4))))))))))
    , fun cs Q ⟨told, hc, ok, q⟩ => ?_⟩)
  subst hc
  have h1 := ok.len
  have h2 := ok.sum
  have s0 : 0 ≤ told.sum := by
    have : ∀ l : List Int, (∀ x ∈ l, 0 ≤ x) → 0 ≤ l.sum := by
      intro l
      induction l with
      | nil => intro _; simp
      | cons x l ih => intro h; rw [List.sum_cons]; have := h x List.mem_cons_self; have := ih fun y m => h y (List.mem_cons_of_mem _ m); omega
    exact this told fun x m => (ok.pos x m).1
  refine ⟨told, rfl, by omega, fun l m => by have := ok.pos l m; omega, ?_⟩
  refine ⟨told, rfl, ⟨by omega, by omega, by omega, by omega⟩, fun i ρ => ∃ c3 c4 c5 c6 c7, ρ = [.sh (eI told), .sh (eI (colN told)), .sh (.int ((List.range i).foldl (fun (w : Int) (i : Nat) => w * (2 + i)) 1)), c3, c4, c5, c6, c7], ⟨_, _, _, _, _, rfl⟩, fun i x ρ hx ⟨c3, c4, c5, c6, c7, hρ⟩ => ?_, fun ρ ⟨c3, c4, c5, c6, c7, hρ⟩ => ?_⟩
  · subst hρ
    obtain ⟨hi, rfl⟩ := rng_get hx
    exact ⟨.inr ⟨by omega, by omega⟩, _, _, _, _, _, by rw [List.range_succ, List.foldl_append]; rfl⟩
  · subst hρ
    rw [rng_len]
    refine ⟨fun i ρ => ∃ c3 c5 c6 c7, ρ = [.sh (eI told), .sh (eI (colN told)), .sh (.int (factN (told.sum + 1 - 2).toNat)), c3, .sh (.int (hooksN told i)), c5, c6, c7], ⟨_, _, _, _, rfl⟩, fun i x ρ hx ⟨c3, c5, c6, c7, hρ⟩ => ?_, fun ρ ⟨c3, c5, c6, c7, hρ⟩ => ?_⟩
    · subst hρ
      obtain ⟨d, hd, rfl⟩ := enu_get hx
      obtain ⟨l, hz, rfl⟩ := map_get hd
      have hp := ok.pos l (List.mem_of_getElem? hz)
      have hi := lt_of_get hz
      have hg : told.getD i 0 = l := by rw [List.getD_eq_getElem?_getD, hz]; rfl
      refine ⟨rfl, rfl, by omega, by omega, fun j ρ => ∃ c3 c7, ρ = [.sh (eI told), .sh (eI (colN told)), .sh (.int (factN (told.sum + 1 - 2).toNat)), c3, .sh (.int (hookRow told (colN told) i j (hooksN told i))), .sh (.int i), .sh (.int l), c7], ⟨_, _, rfl⟩, fun j x ρ hx ⟨c3, c7, hρ⟩ => ?_, fun ρ ⟨c3, c7, hρ⟩ => ?_⟩
      · subst hρ
        obtain ⟨hj, rfl⟩ := rng_get hx
        have hjl : j < (colN told).length := by omega
        have hc := colN_le told j
        rw [Int.zero_add]
        refine ⟨.int ((colN told).getD j 0), atI_nat (by rw [List.getElem?_map, List.getD_eq_getElem?_getD, List.getElem?_eq_getElem hjl]; rfl), .inr ⟨by omega, by omega⟩, _, _, by
          have e : hookRow told (colN told) i (j + 1) (hooksN told i) = hookRow told (colN told) i j (hooksN told i) * (l - j + (colN told).getD j 0 - i - 1) := by
            unfold hookRow
            rw [List.range_succ, List.foldl_append, List.foldl_cons, List.foldl_nil, hookAt, hg]
          rw [e]; rfl⟩
      · subst hρ
        rw [rng_len]
        exact ⟨_, _, _, _, by
          have e : hooksN told (i + 1) = hookRow told (colN told) i l.toNat (hooksN told i) := by
            unfold hooksN
            rw [List.range_succ, List.foldl_append, List.foldl_cons, List.foldl_nil, hg]
          rw [e]⟩
    · subst hρ
      rw [enuD_len, List.length_map]
      exact ⟨⟨ok.hk, ok.lg⟩, q⟩
end
end My
namespace My
open PySem PySem.Spec PyProof.Rows L2 TL
/-! ### the same data are told to be the same -/
def pSame (n : Nat) : Prom := fun cs Q => ∃ d : PyData, cs = [.sh d, .sh d] ∧ d.depth < n ∧ d.canLay0 = true ∧ Q (.bool true)
theorem depth_mem : ∀ {ds : List PyData} {d : PyData}, d ∈ ds → d.depth ≤ PyData.depthAll ds
  | x :: xs, d, m => by
    simp only [PyData.depthAll]
    rcases List.mem_cons.mp m with rfl | m
    · omega
    · have := depth_mem m; omega
theorem lay_mem : ∀ {ds : List PyData} {d : PyData}, PyData.canLayAll0 ds = true → d ∈ ds → d.canLay0 = true
  | x :: xs, d, h, m => by
    simp only [PyData.canLayAll0, Bool.and_eq_true] at h
    rcases List.mem_cons.mp m with rfl | m
    · exact h.1
    · exact lay_mem h.2 m
abbrev s_law_same : Stmt := topS 12
theorem sc_law_same : FnScope ["due", "answer", "key", "k"] ["due", "answer"] (defScope s_law_same) := ⟨rfl, rfl, rfl, by decide +kernel, rfl, by decide +kernel, by decide +kernel⟩
section
variable {P : Program} {w : World} {K : Fg} {mg : Str → Option Value} {base : Heap}
theorem ok_same (D : Df K mg "_law_same" s_law_same ["due", "answer"]) (m_isinstance : mg "isinstance" = none) (m_dict : mg "dict" = none) (m_list : mg "list" = none) (m_tuple : mg "tuple" = none) (m_bool : mg "bool" = none) (m_str : mg "str" = none) (m_int : mg "int" = none) (m_len : mg "len" = none)
    (m_all : mg "all" = none) (m_range : mg "range" = none) : ∀ n, Cal P w K mg base "_law_same" n ["due", "answer"] (pSame n)
  | 0 => cal_false D fun cs Q ⟨d, _, h, _⟩ => absurd h (Nat.not_lt_zero _)
  | n + 1 => by
    have c_law_same := ok_same D m_isinstance m_dict m_list m_tuple m_bool m_str m_int m_len m_all m_range n
    have nd := sc_law_same.nd
    refine cal_ok D sc_law_same (fun cs Q ⟨ps, h, _⟩ => by rw [h]; rfl) (fun f cdv A outer s H E hr => ⟨_, by exact
(vss_cons (vs_if (vb_tru (vc_isi (T := .dic) (se_var (pv 0)) (pe_bltn (v := .ty "dict") (u := .type "dict") (by rfl) m_dict (by decide +kernel) rfl) (by rfl) m_isinstance).se)
      vss_never
      vss_nil)
    (vss_cons (vs_if (wb_or (vb_tru (vc_isi (T := .lst) (se_var (pv 0)) (pe_bltn (v := .ty "list") (u := .type "list") (by rfl) m_list (by decide +kernel) rfl) (by rfl) m_isinstance).se) (wb_or1 (vb_tru (vc_isi (T := .tup) (se_var (pv 0)) (pe_bltn (v := .ty "tuple") (u := .type "tuple") (by rfl) m_tuple (by decide +kernel) rfl) (by rfl) m_isinstance).se))).vb
      (vss_cons (vs_if (wb_or (vb_cmp (op_neA hr.units) ok_ne (vc_isi (T := .lst) (se_var (pv 0)) (pe_bltn (v := .ty "list") (u := .type "list") (by rfl) m_list (by decide +kernel) rfl) (by rfl) m_isinstance).se (vc_isi (T := .lst) (se_var (pv 1)) (pe_bltn (v := .ty "list") (u := .type "list") (by rfl) m_list (by decide +kernel) rfl) (by rfl) m_isinstance).se) (wb_or1 (vb_cmp (op_neA hr.units) ok_ne (vc_isi (T := .tup) (se_var (pv 0)) (pe_bltn (v := .ty "tuple") (u := .type "tuple") (by rfl) m_tuple (by decide +kernel) rfl) (by rfl) m_isinstance).se (vc_isi (T := .tup) (se_var (pv 1)) (pe_bltn (v := .ty "tuple") (u := .type "tuple") (by rfl) m_tuple (by decide +kernel) rfl) (by rfl) m_isinstance).se))).vb
        (vss_one (vs_ret vc_bl))
        vss_nil)
      (vss_one (vs_ret (vc_and (vc_cmp (op_eqA hr.units) ok_eq (vc_len (se_var (pv 0)) (by rfl) m_len).se (vc_len (se_var (pv 1)) (by rfl) m_len).se).se (vc_one (vc_all (vc_lc (own := [("k", 3)]) nd (vi_rng1 (vc_len (se_var (pv 0)) (by rfl) m_len).se (by rfl) m_range).vj (blk_ok (N := ["due", "answer", "key", "k"]) (sc := defScope s_law_same) (by decide +kernel)) (fun _ _ _ _ _ => (vn_name (n := 3) nd rfl)) (fun _ _ _ _ _ => vts_nil) (fun _ _ _ _ _ => (vc_cal c_law_same hr (va_cons (vc_ix (se_var (pv 0)) (se_var (pv 3))) (va_cons (vc_ix (se_var (pv 1)) (se_var (pv 3))) va_nil))))).se (by rfl) m_all))))))
      vss_nil)
    (vss_cons (vs_if (wb_or (vb_cmp op_isN ok_is (se_var (pv 0)) vc_non.se) (wb_or1 (vb_cmp op_isN ok_is (se_var (pv 1)) vc_non.se))).vb
      (vss_one (vs_ret (vc_and (vc_cmp op_isN ok_is (se_var (pv 0)) vc_non.se).se (vc_one (vc_cmp op_isN ok_is (se_var (pv 1)) vc_non.se)))))
      vss_nil)
    (vss_cons (vs_if (wb_or (vb_tru (vc_isi (T := .bl) (se_var (pv 0)) (pe_bltn (v := .ty "bool") (u := .type "bool") (by rfl) m_bool (by decide +kernel) rfl) (by rfl) m_isinstance).se) (wb_or1 (vb_tru (vc_isi (T := .bl) (se_var (pv 1)) (pe_bltn (v := .ty "bool") (u := .type "bool") (by rfl) m_bool (by decide +kernel) rfl) (by rfl) m_isinstance).se))).vb
      (vss_one (vs_ret (vc_and (vc_isi (T := .bl) (se_var (pv 0)) (pe_bltn (v := .ty "bool") (u := .type "bool") (by rfl) m_bool (by decide +kernel) rfl) (by rfl) m_isinstance).se (vc_and (vc_isi (T := .bl) (se_var (pv 1)) (pe_bltn (v := .ty "bool") (u := .type "bool") (by rfl) m_bool (by decide +kernel) rfl) (by rfl) m_isinstance).se (vc_one (vc_cmp (op_eqA hr.units) ok_eq (se_var (pv 0)) (se_var (pv 1))))))))
      vss_nil)
    (vss_cons (vs_if (vb_tru (vc_isi (T := .str) (se_var (pv 0)) (pe_bltn (v := .ty "str") (u := .type "str") (by rfl) m_str (by decide +kernel) rfl) (by rfl) m_isinstance).se)
      (vss_one (vs_ret (vc_and (vc_isi (T := .str) (se_var (pv 1)) (pe_bltn (v := .ty "str") (u := .type "str") (by rfl) m_str (by decide +kernel) rfl) (by rfl) m_isinstance).se (vc_one (vc_cmp (op_eqA hr.units) ok_eq (se_var (pv 0)) (se_var (pv 1)))))))
      vss_nil)
    (vss_one (vs_ret (vc_and (vc_isi (T := .int) (se_var (pv 1)) (pe_bltn (v := .ty "int") (u := .type "int") (by rfl) m_int (by decide +kernel) rfl) (by rfl) m_isinstance).se (vc_one (vc_cmp (op_eqA hr.units) ok_eq (se_var (pv 0)) (se_var (pv 1))))))))))))
    , fun cs Q ⟨d, hc, hd, hy, q⟩ => ?_⟩)
    subst hc
    have seq : ∀ ds : List PyData, PyData.depthAll ds < n → PyData.canLayAll0 ds = true → ∀ i, i < ds.length → ∃ x, atI ds (i : Int) = some x ∧ x.depth < n ∧ x.canLay0 = true := fun ds h1 h2 i hi =>
      ⟨ds[i], atI_nat (List.getElem?_eq_getElem hi), Nat.lt_of_le_of_lt (depth_mem (List.getElem_mem hi)) h1, lay_mem h2 (List.getElem_mem hi)⟩
    cases d with
    | none => exact ⟨by simp, by simp, by simp, q⟩
    | bool b =>
      refine ⟨by simp, by simp, _, _, rfl, rfl, rfl, rfl, ?_⟩
      have e : PyData.eqv (.bool b) (.bool b) = true := by simp [PyData.eqv]
      rw [e]
      exact q
    | int i =>
      refine ⟨by simp, by simp, ?_⟩
      show Q (.bool (id (decide (i = i))))
      simpa using q
    | str x =>
      refine ⟨by simp, by simp, ?_⟩
      show Q (.bool (id (decide (x = x))))
      simpa using q
    | list ds =>
      simp only [PyData.depth] at hd
      simp only [PyData.canLay0] at hy
      refine ⟨_, _, rfl, rfl, rfl, rfl, _, _, rfl, rfl, rfl, rfl, fun hz _ => itd (fun _ => ?_) (fun h => absurd rfl h)⟩
      have hz' : ds.length ≤ 16777216 := by rw [← sizeLine_eq]; exact hz
      refine fun _ => ⟨by omega, by omega, by rw [rng_len]; simpa using hz, ?_⟩
      refine lc_all (fun i : Nat => .int (i : Int)) (fun _ => .bool true) (List.range ds.length) rng_map (fun i hi k1 k2 h1 => iteT ?_) ?_
      · obtain ⟨x, hx, hx1, hx2⟩ := seq ds (by omega) hy i (List.mem_range.mp hi)
        exact ⟨x, hx, x, hx, x, rfl, hx1, hx2, h1⟩
      · refine ⟨(List.range ds.length).map fun _ => true, ?_, ?_⟩
        · show some _ = _
          rw [List.map_map]
          rfl
        · have e : ((List.range ds.length).map fun _ => true).all id = true := by simp
          rw [e]
          exact q
    | tuple ds =>
      simp only [PyData.depth] at hd
      simp only [PyData.canLay0] at hy
      refine ⟨_, _, rfl, rfl, rfl, rfl, _, _, rfl, rfl, rfl, rfl, fun hz _ => itd (fun _ => ?_) (fun h => absurd rfl h)⟩
      have hz' : ds.length ≤ 16777216 := by rw [← sizeLine_eq]; exact hz
      refine fun _ => ⟨by omega, by omega, by rw [rng_len]; simpa using hz, ?_⟩
      refine lc_all (fun i : Nat => .int (i : Int)) (fun _ => .bool true) (List.range ds.length) rng_map (fun i hi k1 k2 h1 => iteT ?_) ?_
      · obtain ⟨x, hx, hx1, hx2⟩ := seq ds (by omega) hy i (List.mem_range.mp hi)
        exact ⟨x, hx, x, hx, x, rfl, hx1, hx2, h1⟩
      · refine ⟨(List.range ds.length).map fun _ => true, ?_, ?_⟩
        · show some _ = _
          rw [List.map_map]
          rfl
        · have e : ((List.range ds.length).map fun _ => true).all id = true := by simp
          rw [e]
          exact q
    | dict kvs => simp [PyData.canLay0] at hy
end
end My
namespace My
open PySem PySem.Spec PyProof.Rows L2 TL
/-! ### shapes with few places -/
/-- the descending lists of ints from 1 to m that sum to at most n -/
def gen : Nat → Nat → Nat → List (List Int)
  | 0, _, _ => [[]]
  | f + 1, n, m => [] :: (List.range (min n m)).flatMap fun l => (gen f (n - (l + 1)) (l + 1)).map fun r => ((l + 1 : Nat) : Int) :: r
def parts : List (List Int) := gen 15 14 14
def corner (told : List Int) (k : Nat) : Bool := decide (k + 1 = told.length) || decide (told.getD k 0 > told.getD (k + 1) 0)
def smaller (told : List Int) (k : Nat) : List Int := told.take k ++ [told.getD k 0 - 1] ++ told.drop (k + 1)
def smallerP (told : List Int) (k : Nat) : List Int := (smaller told k).filter fun l => decide (0 < l)
def isP (told : List Int) : Bool := (told.all fun l => decide (0 < l)) && decide (told.Pairwise fun a b => b ≤ a) && decide (told.sum ≤ 14)
/-! evaluation ahead of use -/
def fN (n : Nat) (k : Nat → Bool) : Bool := match n with
  | 0 => k 0
  | m + 1 => k (m + 1)
def fI (x : Int) (k : Int → Bool) : Bool := match x with
  | .ofNat n => fN n fun n => k (.ofNat n)
  | .negSucc n => fN n fun n => k (.negSucc n)
def fL (xs : List Int) (k : List Int → Bool) : Bool := match xs with
  | [] => k []
  | x :: r => fI x fun x => fL r fun r => k (x :: r)
theorem fI_eq (x : Int) (k : Int → Bool) : fI x k = k x := by cases x <;> rename_i n <;> cases n <;> rfl
theorem fL_eq : ∀ (xs : List Int) (k : List Int → Bool), fL xs k = k xs
  | [], _ => rfl
  | x :: r, k => by unfold fL; rw [fI_eq, fL_eq r]
def hks (told down : List Int) (n : Nat) : Int := (List.range n).foldl (fun h r => hookRow told down r (told.getD r 0).toNat h) 1
def cnt (told down : List Int) : Int := factN (told.sum + 1 - 2).toNat / hks told down told.length
/-- what is to be known of one of them -/
def okD (told down : List Int) : Bool :=
  decide (0 < hks told down told.length ∧ hks told down told.length < 1000000000000) && (fI (cnt told down) fun c => (fL (colN down) fun col2 => decide (cnt down col2 = c)) &&
    decide (c = if told = [] then 1 else (List.range told.length).foldl (fun acc k => if corner told k then acc + cnt (smallerP told k) (colN (smallerP told k)) else acc) 0)) &&
  isP down && decide (told.length ≤ 14) && (told.all fun l => decide (0 < l ∧ l ≤ 14 ∧ l ≤ down.length)) && decide (0 ≤ told.sum ∧ told.sum ≤ 14) &&
  ((List.range told.length).all fun k => !corner told k || (isP (smallerP told k) && decide ((smallerP told k).sum < told.sum)))
theorem parts_ok : (parts.all fun t => fL t fun told => fL (colN told) fun down => okD told down) = true := by decide +kernel
structure PartOk (told : List Int) : Prop where
  hk : 0 < hooksN told told.length ∧ hooksN told told.length < 1000000000000
  col : countN (colN told) = countN told
  rec_ : countN told = if told = [] then 1 else (List.range told.length).foldl (fun acc k => if corner told k then acc + countN (smallerP told k) else acc) 0
  colP : isP (colN told) = true
  len : told.length ≤ 14
  ent : ∀ l ∈ told, 0 < l ∧ l ≤ 14 ∧ l ≤ (colN told).length
  sum : 0 ≤ told.sum ∧ told.sum ≤ 14
  sml : ∀ k, k < told.length → corner told k = true → isP (smallerP told k) = true ∧ (smallerP told k).sum < told.sum
theorem gen_mem : ∀ (f n m : Nat) (told : List Int), (∀ l ∈ told, 0 < l) → (told.Pairwise fun a b => b ≤ a) → (∀ l ∈ told, l ≤ m) → told.sum ≤ n → told.length < f → told ∈ gen f n m
  | 0, _, _, _, _, _, _, _, h => absurd h (Nat.not_lt_zero _)
  | f + 1, n, m, [], _, _, _, _, _ => by simp [gen]
  | f + 1, n, m, l :: r, h0, hd, hm, hs, hf => by
    have l0 := h0 l List.mem_cons_self
    have lm := hm l List.mem_cons_self
    have hd' := List.pairwise_cons.mp hd
    have r0 : ∀ x ∈ r, 0 < x := fun x mx => h0 x (List.mem_cons_of_mem _ mx)
    have sr : ∀ l : List Int, (∀ x ∈ l, 0 < x) → 0 ≤ l.sum := by
      intro l
      induction l with
      | nil => intro _; simp
      | cons x l ih => intro h; rw [List.sum_cons]; have := h x List.mem_cons_self; have := ih fun y m => h y (List.mem_cons_of_mem _ m); omega
    have sr' := sr r r0
    rw [List.sum_cons] at hs
    refine List.mem_cons_of_mem _ (List.mem_flatMap.mpr ⟨(l - 1).toNat, List.mem_range.mpr (by omega), List.mem_map.mpr ⟨r, gen_mem f _ _ r r0 hd'.2 (fun x mx => ?_) (by omega) (by simpa using hf), ?_⟩⟩)
    · have := hd'.1 x mx
      omega
    · congr 1
      omega
theorem len_le_sum : ∀ l : List Int, (∀ x ∈ l, 0 < x) → (l.length : Int) ≤ l.sum
  | [], _ => by simp
  | x :: l, h => by
    rw [List.sum_cons, List.length_cons]
    have := h x List.mem_cons_self
    have := len_le_sum l fun y m => h y (List.mem_cons_of_mem _ m)
    omega
theorem ent_le_sum : ∀ l : List Int, (∀ x ∈ l, 0 < x) → ∀ x ∈ l, x ≤ l.sum
  | y :: l, h, x, m => by
    rw [List.sum_cons]
    have h0 := h y List.mem_cons_self
    have hr : ∀ x ∈ l, 0 < x := fun x m => h x (List.mem_cons_of_mem _ m)
    have := len_le_sum l hr
    rcases List.mem_cons.mp m with rfl | m
    · omega
    · have := ent_le_sum l hr x m
      omega
theorem isP_mem {told : List Int} (h : isP told = true) : told ∈ parts := by
  simp only [isP, Bool.and_eq_true, List.all_eq_true, decide_eq_true_eq] at h
  obtain ⟨⟨h1, h2⟩, h3⟩ := h
  have := len_le_sum told h1
  exact gen_mem 15 14 14 told h1 h2 (fun l m => by have := ent_le_sum told h1 l m; omega) (by omega) (by omega)
theorem part_ok {told : List Int} (h : isP told = true) : PartOk told := by
  have q := List.all_eq_true.mp parts_ok told (isP_mem h)
  rw [fL_eq, fL_eq] at q
  unfold okD at q
  rw [fI_eq, fL_eq] at q
  simp only [Bool.and_eq_true, decide_eq_true_eq, List.all_eq_true] at q
  obtain ⟨⟨⟨⟨⟨⟨q1, q2, q3⟩, q4⟩, q5⟩, q6⟩, q7⟩, q8⟩ := q
  refine ⟨q1, q2, q3, q4, q5, q6, q7, fun k hk hc => ?_⟩
  have := q8 k (List.mem_range.mpr hk)
  rw [hc] at this
  simpa using this
theorem shape_ok {told : List Int} (h : isP told = true) : ShapeOk told := by
  have p := part_ok h
  exact ⟨by have := p.len; omega, fun l m => by have := p.ent l m; omega, by have := p.sum; omega, p.hk.1, Nat.lt_of_lt_of_le (PySem.Flt.log2_lt_of (k := 60) (by decide) (by have := p.hk; omega)) (by decide)⟩
end My
namespace My
open PySem PySem.Spec PyProof.Rows L2 TL
/-! ### the count that is kept -/
def kOf (told : List Int) : List Key := told.map Sum.inl
/-- what is kept is right -/
def KI (kvs : List (List Key × V)) : Prop := (kvs.map (·.1)).Nodup ∧ ∀ p ∈ kvs, ∃ told, isP told = true ∧ p.1 = kOf told ∧ p.2 = .int (countN told)
theorem kOf_inj {a b : List Int} (h : kOf a = kOf b) : a = b := by
  unfold kOf at h
  have : ∀ (a b : List Int), a.map (Sum.inl : Int → Key) = b.map Sum.inl → a = b := by
    intro a
    induction a with
    | nil => intro b h; cases b with | nil => rfl | cons _ _ => cases h
    | cons x a ih => intro b h; cases b with | nil => cases h | cons y b => injection h with h1 h2; injection h1 with h1; rw [h1, ih b h2]
  exact this a b h
theorem nodup_len {α : Type} [DecidableEq α] : ∀ {l m : List α}, l.Nodup → (∀ x ∈ l, x ∈ m) → l.length ≤ m.length
  | [], _, _, _ => Nat.zero_le _
  | x :: l, m, h, hm => by
    have h' := List.nodup_cons.mp h
    have hx := hm x List.mem_cons_self
    have := nodup_len (m := m.erase x) h'.2 fun y my => (List.mem_erase_of_ne (fun e => h'.1 (by rw [← e]; exact my))).mpr (hm y (List.mem_cons_of_mem _ my))
    rw [List.length_erase_of_mem hx] at this
    have : 0 < m.length := List.length_pos_of_mem hx
    simp only [List.length_cons]
    omega
theorem parts_len : parts.length ≤ 1000 := by decide +kernel
theorem KI.len {kvs : List (List Key × V)} (h : KI kvs) : kvs.length < sizeLine := by
  have := nodup_len (m := parts.map kOf) h.1 fun x m => by
    obtain ⟨p, hp, rfl⟩ := List.mem_map.mp m
    obtain ⟨told, h1, h2, _⟩ := h.2 p hp
    exact List.mem_map.mpr ⟨told, isP_mem h1, h2.symm⟩
  rw [List.length_map, List.length_map] at this
  have := parts_len
  exact sz' (by omega)
theorem KI.get {kvs : List (List Key × V)} (h : KI kvs) {told : List Int} {v : V} (e : valV kvs (kOf told) = some v) : v = .int (countN told) := by
  unfold valV at e
  cases hf : kvs.find? (fun kv => decide (kv.1 = kOf told)) with
  | none => rw [hf] at e; cases e
  | some p =>
    rw [hf] at e
    cases e
    have hp := List.mem_of_find?_eq_some hf
    have hk : p.1 = kOf told := by simpa using List.find?_some hf
    obtain ⟨t, _, h2, h3⟩ := h.2 p hp
    rw [hk] at h2
    show p.2 = _
    rw [h3, kOf_inj h2]
theorem KI.put {kvs : List (List Key × V)} (h : KI kvs) {told : List Int} (hp : isP told = true) : KI (putK kvs (kOf told) (.int (countN told))) ∧ valV (putK kvs (kOf told) (.int (countN told))) (kOf told) = some (.int (countN told)) := by
  by_cases ha : (kvs.any fun kv => decide (kv.1 = kOf told)) = true
  · have ep : putK kvs (kOf told) (.int (countN told)) = kvs.map fun kv => if kv.1 = kOf told then (kv.1, .int (countN told)) else kv := by
      unfold putK
      rw [if_pos ha]
    have em : ((kvs.map fun kv => if kv.1 = kOf told then (kv.1, V.int (countN told)) else kv).map (·.1)) = kvs.map (·.1) := by
      rw [List.map_map]
      apply List.map_congr_left
      intro p _
      show (if p.1 = kOf told then (p.1, V.int (countN told)) else p).1 = p.1
      split <;> rfl
    have hval : ∀ p ∈ (kvs.map fun kv => if kv.1 = kOf told then (kv.1, V.int (countN told)) else kv), ∃ t, isP t = true ∧ p.1 = kOf t ∧ p.2 = .int (countN t) := by
      intro p m
      obtain ⟨p0, m0, rfl⟩ := List.mem_map.mp m
      by_cases hk : p0.1 = kOf told
      · rw [if_pos hk]; exact ⟨told, hp, hk, rfl⟩
      · rw [if_neg hk]; exact h.2 p0 m0
    rw [ep]
    refine ⟨⟨by rw [em]; exact h.1, hval⟩, ?_⟩
    obtain ⟨p, m, hk⟩ := List.any_eq_true.mp ha
    have hk : p.1 = kOf told := by simpa using hk
    cases hv : valV (kvs.map fun kv => if kv.1 = kOf told then (kv.1, V.int (countN told)) else kv) (kOf told) with
    | none =>
      unfold valV at hv
      cases hf : (kvs.map fun kv => if kv.1 = kOf told then (kv.1, V.int (countN told)) else kv).find? (fun kv => decide (kv.1 = kOf told)) with
      | none =>
        have := List.find?_eq_none.mp hf (if p.1 = kOf told then (p.1, V.int (countN told)) else p) (List.mem_map.mpr ⟨p, m, rfl⟩)
        rw [if_pos hk] at this
        simp [hk] at this
      | some _ => rw [hf] at hv; cases hv
    | some v =>
      have : KI (kvs.map fun kv => if kv.1 = kOf told then (kv.1, V.int (countN told)) else kv) := ⟨by rw [em]; exact h.1, hval⟩
      rw [this.get hv]
  · have ha : (kvs.any fun kv => decide (kv.1 = kOf told)) = false := (Bool.not_eq_true _).mp ha
    have no : ∀ p ∈ kvs, p.1 ≠ kOf told := fun p m z => by
      have := List.any_eq_false.mp ha p m
      simp [z] at this
    have ep : putK kvs (kOf told) (.int (countN told)) = kvs ++ [(kOf told, .int (countN told))] := by
      unfold putK
      rw [ha]
      rfl
    rw [ep]
    refine ⟨⟨?_, fun p m => ?_⟩, ?_⟩
    · rw [List.map_append, List.nodup_append]
      refine ⟨h.1, by simp, fun x m y my z => ?_⟩
      obtain ⟨p, hp, rfl⟩ := List.mem_map.mp m
      have : y = kOf told := by simpa using my
      exact no p hp (z.trans this)
    · rcases List.mem_append.mp m with m | m
      · exact h.2 p m
      · have : p = (kOf told, .int (countN told)) := by simpa using m
        subst this
        exact ⟨told, hp, rfl, rfl⟩
    · unfold valV
      rw [List.find?_append, List.find?_eq_none.mpr fun p m => by simp [no p m]]
      simp
theorem kpU (H : Hp) (p : Addr) (o : HO) (n : H p = none) (b : Addr) (u : HO) (e : H b = some u) : upd H p o b = some u := by rw [upd_ne (ne_of_none e n)]; exact e
def spLC (n : Nat) : Sp := fun vs H Q _ => ∃ (t a : Addr) (told : List Int) (kvs : List (List Key × V)), vs = [.ref t, .ref a] ∧ H t = some (.lst (told.map V.int)) ∧ isP told = true ∧ told.sum < n ∧ H a = some (.dT kvs) ∧ KI kvs ∧
  ∀ H' kvs', (∀ b o, b ≠ a → H b = some o → H' b = some o) → H' a = some (.dT kvs') → KI kvs' → Q (.int (countN told)) H'
abbrev s_law_count : Stmt := topS 14
theorem sc_law_count : FnScope ["told", "known", "key", "number", "k", "smaller", "length"] ["told", "known"] (defScope s_law_count) := ⟨rfl, rfl, rfl, by decide +kernel, rfl, by decide +kernel, by decide +kernel⟩
section
variable {P : Program} {w : World} {K : Fg} {mg : Str → Option Value} {base : Heap}
theorem boot_tuple' : bootBuiltins "tuple" = some (.type "tuple") := by decide +kernel
theorem kOf_kV (told : List Int) : (kOf told).map kV = told.map V.int := by
  unfold kOf
  rw [List.map_map]
  rfl
theorem calR_false {x : String} {st : Stmt} {ps : List Str} {sp : Sp} (D : Df K mg x st ps) (h : ∀ vs H Q E, ¬ sp vs H Q E) : CalR P w K mg base x 0 ps sp :=
  let ⟨f, fd, F, m, b⟩ := D; ⟨f, fd, ⟨fun vs H Q E q => (h vs H Q E q).elim, fun _ _ _ H _ _ vs Q E _ _ _ _ q => (h vs H Q E q).elim⟩, m, F.kp, b⟩
theorem ok_lcount (D : Df K mg "_law_count" s_law_count ["told", "known"]) (m_tuple : mg "tuple" = none) (m_range : mg "range" = none) (m_len : mg "len" = none) : ∀ n, CalR P w K mg base "_law_count" n ["told", "known"] (spLC n)
  | 0 => calR_false D fun vs H Q E ⟨t, a, told, kvs, _, _, hp, h, _⟩ => by have := (part_ok hp).sum; omega
  | n + 1 => by
    have c := ok_lcount D m_tuple m_range m_len n
    have nd := sc_law_count.nd
    have L : ∀ {X : Cx} {e : Expr} {t : TE}, True := fun {_ _ _} => trivial
    refine calR_ok D sc_law_count (fun vs H Q E ⟨t, a, told, kvs, h, _⟩ => by rw [h]; rfl) (fun f cdv A outer s H vs Q E hr ⟨t, a, told, kvs, hv, hT, hp, hs, hA, hK, q⟩ => ?_)
    subst hv
    refine ⟨_, pss_cons (ps_set (i := 2) nd rfl (.inl rfl) (pe_callTy call_tuple_of (by rfl) m_tuple boot_tuple' (pa_cons (pv 0) pa_nil)))
      (pss_cons (ps_if (pt_cmp (pc_dnotin (hu_of hr) (pv 2) (pv 1)))
        (pss_cons (ps_set (i := 3) nd rfl (.inl rfl) pe_int)
        (pss_cons (ps_for PassesOwn.never rfl (pi_range1 rfl m_range (pa_cons (pe_callB call_len_seq (by rfl) m_len PySem.boot_len (pa_cons (pv 0) pa_nil)) pa_nil)) (pg_name (i := 4) nd rfl (.inl rfl))
          (pss_one (ps_if (PW.pt (pw_or (pt_cmpR op_eq (pv 4) (pe_op op_sub (pe_callB call_len_seq (by rfl) m_len PySem.boot_len (pa_cons (pv 0) pa_nil)) pe_int) (nomark _)) (pw_or1 (pt_cmpR op_gt (pe_ix ix_list (pv 0) (pv 4) (fun _ _ => rfl)) (pe_ix ix_list (pv 0) (pe_op op_add (pv 4) pe_int) (fun _ _ => rfl)) (nomark _)))))
            (pss_cons (ps_set (i := 5) nd rfl (.inl rfl) (pe_op op_cat (pe_op op_cat (pe_slice sl_list (pv 0) po_none (po_some (pv 4))) (pe_lst (pa_cons (pe_op op_sub (pe_ix ix_list (pv 0) (pv 4) (fun _ _ => rfl)) pe_int) pa_nil))) (pe_slice sl_list (pv 0) (po_some (pe_op op_add (pv 4) pe_int)) po_none)))
            (pss_one (ps_set (i := 3) nd rfl (.inl rfl) (pe_op op_add (pv 3) (pe_cal c hr (pa_cons (pe_lc (own := [("length", 6)]) (g := gName 6) (by rfl) nd (pi_list (pv 5)) (blkOk_by (own := [("length", 6)]) (N := ["told", "known", "key", "number", "k", "smaller", "length"]) (sc := defScope s_law_count) (by decide +kernel)) (fun _ _ _ _ _ => pg_name (i := 6) nd rfl (Or.inl rfl)) (fun _ _ _ _ _ => pts_one (pt_cmpR op_gt (pv 6) pe_int (nomark _))) (fun _ _ _ _ _ => pv 6)) (pa_cons (pv 1) pa_nil))))))) pss_nil)))
        (pss_one (ps_dput (hu_of hr) (pv 1) (pv 2) (pe_ifExp (pt_cmpR (op_neD hr.units) (pv 0) (pe_lst pa_nil) (nomark _)) (pv 3) pe_int) rfl)))) pss_nil)
      (pss_one (ps_ret (pe_dget (hu_of hr) (pv 1) (pv 2) (fun _ _ => rfl))))), ?_⟩
    refine ⟨.ref t, rfl, t, _, rfl, .inl ⟨.inl (.inl hT), fun kk nk => ?_⟩⟩
    have nka : a ≠ kk := ne_of_none hA nk
    have nkt : t ≠ kk := ne_of_none hT nk
    have po := part_ok hp
    have fin : ∀ (H2 : Hp) (kvs2 : List (List Key × V)), (∀ b o, b ≠ a → upd H kk (.tup (told.map V.int)) b = some o → H2 b = some o) → H2 a = some (.dT kvs2) → KI kvs2 → Q (.int (countN told)) H2 := fun H2 kvs2 k1 k2 k3 =>
      q H2 kvs2 (fun b o hb e => k1 b o hb (by rw [upd_ne (ne_of_none e nk)]; exact e)) k2 k3
    have hA1 : upd H kk (.tup (told.map V.int)) a = some (.dT kvs) := by rw [upd_ne nka]; exact hA
    have hT1 : upd H kk (.tup (told.map V.int)) t = some (.lst (told.map V.int)) := by rw [upd_ne nkt]; exact hT
    have hk1 : upd H kk (.tup (told.map V.int)) kk = some (.tup ((kOf told).map kV)) := by rw [upd_same, kOf_kV]
    generalize upd H kk (.tup (told.map V.int)) = H1 at fin hA1 hT1 hk1 ⊢
    refine ⟨_, rfl, _, rfl, a, _, rfl, DGet.t hA1 hk1, _, rfl, itb (fun e => ?_) (fun e => ?_)⟩
    · -- not kept yet
      have ent : ∀ k, k < told.length → atI (told.map V.int) (k : Int) = some (.int (told.getD k 0)) := fun k hk => by
        apply atI_nat
        rw [List.getElem?_map, List.getD_eq_getElem?_getD, List.getElem?_eq_getElem hk]
        rfl
      refine ⟨.ref t, rfl, t, _, rfl, .inl (.inl (.inl hT1)), _, rfl, by omega, by have := po.len; rw [List.length_map]; omega, ?_⟩
      have el : ((told.map V.int).length : Int).toNat = told.length := by rw [List.length_map]; rfl
      rw [el]
      refine for_range (lo := 0) (n := told.length) (fun i σ H => ∃ y4 y5 y6 kvs', σ = [some (.ref t), some (.ref a), some (.ref kk), some (.int ((List.range i).foldl (fun acc k => if corner told k then acc + countN (smallerP told k) else acc) 0)), y4, y5, y6] ∧
        (∀ b o, b ≠ a → H1 b = some o → H b = some o) ∧ H a = some (.dT kvs') ∧ KI kvs') ⟨none, none, none, kvs, rfl, fun _ _ _ h => h, hA1, hK⟩ (fun i σ H3 hi ⟨y4, y5, y6, kvs', hσ, k1, k2, k3⟩ => ?_) (fun σ H3 ⟨y4, y5, y6, kvs', hσ, k1, k2, k3⟩ => ?_)
      · subst hσ
        have hT3 : H3 t = some (.lst (told.map V.int)) := k1 _ _ (fun z => by rw [z, hA1] at hT1; cases hT1) hT1
        have hlen := po.len
        have e0 : ((told.map V.int).length : Int) = (told.length : Nat) := by rw [List.length_map]
        refine ⟨_, rfl, .ref t, rfl, t, _, rfl, .inl (.inl (.inl hT3)), _, _, rfl, rfl, rfl, _, rfl, ite2 (fun e1 => ?_) (fun e1 => ?_)⟩
        · have hc : corner told i = true := by
            have z := V.int.inj (of_decide_eq_true e1)
            rw [e0] at z
            have : i + 1 = told.length := by omega
            simp [corner, this]
          refine iteT ?_
          have hpS := (po.sml i hi hc).1
          have hsS := (po.sml i hi hc).2
          -- smaller = ..
          have hS3 : SqL K H3 t (told.map V.int) := .inl (.inl hT3)
          refine ⟨.ref t, rfl, _, rfl, _, rfl, t, _, rfl, hS3, fun p1 n1 => ?_⟩
          have t1 : t ≠ p1 := ne_of_none hT3 n1
          have hT4 : (upd H3 p1 (.lst (cutV (told.map V.int) none (some (0 + (i : Int)))))) t = some (.lst (told.map V.int)) := by rw [upd_ne t1]; exact hT3
          refine ⟨.ref t, rfl, _, rfl, t, _, _, _, rfl, rfl, .inl (.inl hT4), by rw [Int.zero_add]; exact ent i hi, _, _, rfl, rfl, sz (by show 1 ≤ 16777216; decide), fun p2 n2 => ?_⟩
          have p12 : p1 ≠ p2 := ne_of_none upd_same n2
          have t2 : t ≠ p2 := ne_of_none hT4 n2
          refine ⟨p1, p2, _, _, rfl, rfl, by rw [upd_ne p12]; exact upd_same, upd_same, sz (by simp [cutV]; omega), fun p3 n3 => ?_⟩
          have t3 : t ≠ p3 := ne_of_none (by rw [upd_ne t2]; exact hT4) n3
          refine ⟨.ref t, rfl, _, rfl, _, _, rfl, rfl, _, rfl, t, _, rfl, .inl (.inl (by rw [upd_ne t3, upd_ne t2]; exact hT4)), fun p4 n4 => ?_⟩
          have p34 : p3 ≠ p4 := ne_of_none upd_same n4
          refine ⟨p3, p4, _, _, rfl, rfl, by rw [upd_ne p34]; exact upd_same, upd_same, sz (by simp [cutV]; omega), fun p5 n5 => ?_⟩
          have eS : cutV (told.map V.int) none (some (0 + (i : Int))) ++ [V.int (told.getD i 0 - 1)] ++ cutV (told.map V.int) (some (0 + (i : Int) + 1)) none = (smaller told i).map V.int := by
            show slD (told.map V.int) none (some (0 + (i : Int))) ++ [V.int (told.getD i 0 - 1)] ++ slD (told.map V.int) (some (0 + (i : Int) + 1)) none = _
            rw [Int.zero_add, slD_take, slD_drop1]
            simp [smaller, List.map_take, List.map_drop]
          rw [eS]
          have keep : ∀ b o, H3 b = some o → (upd (upd (upd (upd (upd H3 p1 (.lst (cutV (told.map V.int) none (some (0 + (i : Int)))))) p2 (.lst [V.int (told.getD i 0 - 1)])) p3 (.lst (cutV (told.map V.int) none (some (0 + (i : Int))) ++ [V.int (told.getD i 0 - 1)]))) p4 (.lst (cutV (told.map V.int) (some (0 + (i : Int) + 1)) none))) p5 (.lst ((smaller told i).map V.int))) b = some o := fun b o e => by
            exact kpU _ _ _ n5 _ _ (kpU _ _ _ n4 _ _ (kpU _ _ _ n3 _ _ (kpU _ _ _ n2 _ _ (kpU _ _ _ n1 _ _ e))))
          have h5 : (upd (upd (upd (upd (upd H3 p1 (.lst (cutV (told.map V.int) none (some (0 + (i : Int)))))) p2 (.lst [V.int (told.getD i 0 - 1)])) p3 (.lst (cutV (told.map V.int) none (some (0 + (i : Int))) ++ [V.int (told.getD i 0 - 1)]))) p4 (.lst (cutV (told.map V.int) (some (0 + (i : Int) + 1)) none))) p5 (.lst ((smaller told i).map V.int))) p5 = some (.lst ((smaller told i).map V.int)) := upd_same
          generalize (upd (upd (upd (upd (upd H3 p1 (.lst (cutV (told.map V.int) none (some (0 + (i : Int)))))) p2 (.lst [V.int (told.getD i 0 - 1)])) p3 (.lst (cutV (told.map V.int) none (some (0 + (i : Int))) ++ [V.int (told.getD i 0 - 1)]))) p4 (.lst (cutV (told.map V.int) (some (0 + (i : Int) + 1)) none))) p5 (.lst ((smaller told i).map V.int))) = H5 at keep h5 ⊢
          -- the comprehension, the call
          refine ⟨_, rfl, .ref p5, rfl, p5, rfl, ⟨_, .inl (.inl h5)⟩, fun D nD => lc_list (K := K) (a := p5) (xs := (smaller told i).map V.int) (fun j H => (∀ b o, H5 b = some o → H b = some o) ∧ H D = some (.lst ((((smaller told i).take j).filter fun l => decide (0 < l)).map V.int)))
            ⟨fun b o e => by rw [upd_ne (ne_of_none e nD)]; exact e, upd_same⟩ (fun j H _ hj => .inl (.inl (hj.1 _ _ h5))) (fun j x H hx ⟨j1, j2⟩ => ?_) (fun H ⟨j1, j2⟩ => ?_)⟩
          · obtain ⟨z, hz, rfl⟩ := map_get hx
            refine ⟨rfl, _, rfl, _, _, rfl, rfl, _, rfl, itd (fun e => ?_) (fun e => ⟨j1, ?_⟩)⟩
            · have hlen : (((((smaller told i).take j).filter fun l => decide (0 < l)).map V.int).length) < sizeLine := by
                rw [List.length_map]
                refine sz' (Nat.lt_of_le_of_lt (List.length_filter_le _ _) ?_)
                simp [smaller]
                omega
              refine ⟨_, rfl, _, j2, hlen, fun b o e => by rw [upd_ne (ne_of_none e nD)]; exact j1 b o e, ?_⟩
              rw [upd_same, List.take_add_one, hz]
              simp [List.filter_append, e]
            · rw [List.take_add_one, hz, j2]
              simp [List.filter_append, e]
          · rw [List.length_map, List.take_length] at j2
            have j2 : H D = some (.lst ((smallerP told i).map V.int)) := j2
            have nDa : a ≠ D := ne_of_none (keep _ _ k2) nD
            refine ⟨_, rfl, D, a, smallerP told i, kvs', rfl, j2, hpS, by omega, j1 _ _ (keep _ _ k2), k3, fun H6 kvs6 c1 c2 c3 => ?_⟩
            exact ⟨_, _, rfl, rfl, _, _, _, kvs6, by rw [List.range_succ, List.foldl_append, List.foldl_cons, List.foldl_nil, if_pos hc]; rfl, fun b o hb e => c1 b o hb (j1 b o (keep b o (k1 b o hb e))), c2, c3⟩
        · have hn : ¬ i + 1 = told.length := fun z => e1 (by
            apply decide_eq_true
            rw [e0]
            congr 1
            omega)
          refine ⟨.ref t, rfl, _, rfl, t, _, _, _, rfl, rfl, .inl (.inl hT3), by rw [Int.zero_add]; exact ent i hi, .ref t, rfl, _, rfl, _, _, rfl, rfl, t, _, _, _, rfl, rfl, .inl (.inl hT3), by rw [Int.zero_add]; exact ent (i + 1) (by omega), _, _, rfl, rfl, _, rfl, itd (fun e2 => ?_) (fun e2 => ?_)⟩
          · have hc : corner told i = true := by simp only [corner, Bool.or_eq_true, decide_eq_true_eq]; exact .inr e2
            have hpS := (po.sml i hi hc).1
            have hsS := (po.sml i hi hc).2
            -- smaller = ..
            have hS3 : SqL K H3 t (told.map V.int) := .inl (.inl hT3)
            refine ⟨.ref t, rfl, _, rfl, _, rfl, t, _, rfl, hS3, fun p1 n1 => ?_⟩
            have t1 : t ≠ p1 := ne_of_none hT3 n1
            have hT4 : (upd H3 p1 (.lst (cutV (told.map V.int) none (some (0 + (i : Int)))))) t = some (.lst (told.map V.int)) := by rw [upd_ne t1]; exact hT3
            refine ⟨.ref t, rfl, _, rfl, t, _, _, _, rfl, rfl, .inl (.inl hT4), by rw [Int.zero_add]; exact ent i hi, _, _, rfl, rfl, sz (by show 1 ≤ 16777216; decide), fun p2 n2 => ?_⟩
            have p12 : p1 ≠ p2 := ne_of_none upd_same n2
            have t2 : t ≠ p2 := ne_of_none hT4 n2
            refine ⟨p1, p2, _, _, rfl, rfl, by rw [upd_ne p12]; exact upd_same, upd_same, sz (by simp [cutV]; omega), fun p3 n3 => ?_⟩
            have t3 : t ≠ p3 := ne_of_none (by rw [upd_ne t2]; exact hT4) n3
            refine ⟨.ref t, rfl, _, rfl, _, _, rfl, rfl, _, rfl, t, _, rfl, .inl (.inl (by rw [upd_ne t3, upd_ne t2]; exact hT4)), fun p4 n4 => ?_⟩
            have p34 : p3 ≠ p4 := ne_of_none upd_same n4
            refine ⟨p3, p4, _, _, rfl, rfl, by rw [upd_ne p34]; exact upd_same, upd_same, sz (by simp [cutV]; omega), fun p5 n5 => ?_⟩
            have eS : cutV (told.map V.int) none (some (0 + (i : Int))) ++ [V.int (told.getD i 0 - 1)] ++ cutV (told.map V.int) (some (0 + (i : Int) + 1)) none = (smaller told i).map V.int := by
              show slD (told.map V.int) none (some (0 + (i : Int))) ++ [V.int (told.getD i 0 - 1)] ++ slD (told.map V.int) (some (0 + (i : Int) + 1)) none = _
              rw [Int.zero_add, slD_take, slD_drop1]
              simp [smaller, List.map_take, List.map_drop]
            rw [eS]
            have keep : ∀ b o, H3 b = some o → (upd (upd (upd (upd (upd H3 p1 (.lst (cutV (told.map V.int) none (some (0 + (i : Int)))))) p2 (.lst [V.int (told.getD i 0 - 1)])) p3 (.lst (cutV (told.map V.int) none (some (0 + (i : Int))) ++ [V.int (told.getD i 0 - 1)]))) p4 (.lst (cutV (told.map V.int) (some (0 + (i : Int) + 1)) none))) p5 (.lst ((smaller told i).map V.int))) b = some o := fun b o e => by
              exact kpU _ _ _ n5 _ _ (kpU _ _ _ n4 _ _ (kpU _ _ _ n3 _ _ (kpU _ _ _ n2 _ _ (kpU _ _ _ n1 _ _ e))))
            have h5 : (upd (upd (upd (upd (upd H3 p1 (.lst (cutV (told.map V.int) none (some (0 + (i : Int)))))) p2 (.lst [V.int (told.getD i 0 - 1)])) p3 (.lst (cutV (told.map V.int) none (some (0 + (i : Int))) ++ [V.int (told.getD i 0 - 1)]))) p4 (.lst (cutV (told.map V.int) (some (0 + (i : Int) + 1)) none))) p5 (.lst ((smaller told i).map V.int))) p5 = some (.lst ((smaller told i).map V.int)) := upd_same
            generalize (upd (upd (upd (upd (upd H3 p1 (.lst (cutV (told.map V.int) none (some (0 + (i : Int)))))) p2 (.lst [V.int (told.getD i 0 - 1)])) p3 (.lst (cutV (told.map V.int) none (some (0 + (i : Int))) ++ [V.int (told.getD i 0 - 1)]))) p4 (.lst (cutV (told.map V.int) (some (0 + (i : Int) + 1)) none))) p5 (.lst ((smaller told i).map V.int))) = H5 at keep h5 ⊢
            -- the comprehension, the call
            refine ⟨_, rfl, .ref p5, rfl, p5, rfl, ⟨_, .inl (.inl h5)⟩, fun D nD => lc_list (K := K) (a := p5) (xs := (smaller told i).map V.int) (fun j H => (∀ b o, H5 b = some o → H b = some o) ∧ H D = some (.lst ((((smaller told i).take j).filter fun l => decide (0 < l)).map V.int)))
              ⟨fun b o e => by rw [upd_ne (ne_of_none e nD)]; exact e, upd_same⟩ (fun j H _ hj => .inl (.inl (hj.1 _ _ h5))) (fun j x H hx ⟨j1, j2⟩ => ?_) (fun H ⟨j1, j2⟩ => ?_)⟩
            · obtain ⟨z, hz, rfl⟩ := map_get hx
              refine ⟨rfl, _, rfl, _, _, rfl, rfl, _, rfl, itd (fun e => ?_) (fun e => ⟨j1, ?_⟩)⟩
              · have hlen : (((((smaller told i).take j).filter fun l => decide (0 < l)).map V.int).length) < sizeLine := by
                  rw [List.length_map]
                  refine sz' (Nat.lt_of_le_of_lt (List.length_filter_le _ _) ?_)
                  simp [smaller]
                  omega
                refine ⟨_, rfl, _, j2, hlen, fun b o e => by rw [upd_ne (ne_of_none e nD)]; exact j1 b o e, ?_⟩
                rw [upd_same, List.take_add_one, hz]
                simp [List.filter_append, e]
              · rw [List.take_add_one, hz, j2]
                simp [List.filter_append, e]
            · rw [List.length_map, List.take_length] at j2
              have j2 : H D = some (.lst ((smallerP told i).map V.int)) := j2
              have nDa : a ≠ D := ne_of_none (keep _ _ k2) nD
              refine ⟨_, rfl, D, a, smallerP told i, kvs', rfl, j2, hpS, by omega, j1 _ _ (keep _ _ k2), k3, fun H6 kvs6 c1 c2 c3 => ?_⟩
              exact ⟨_, _, rfl, rfl, _, _, _, kvs6, by rw [List.range_succ, List.foldl_append, List.foldl_cons, List.foldl_nil, if_pos hc]; rfl, fun b o hb e => c1 b o hb (j1 b o (keep b o (k1 b o hb e))), c2, c3⟩
          · have hc : ¬ corner told i = true := by
              simp only [corner, Bool.or_eq_true, decide_eq_true_eq, not_or]
              exact ⟨hn, e2⟩
            exact ⟨_, _, _, kvs', by rw [List.range_succ, List.foldl_append, List.foldl_cons, List.foldl_nil, if_neg hc]; rfl, k1, k2, k3⟩
      · subst hσ
        have hT3 : H3 t = some (.lst (told.map V.int)) := k1 _ _ (fun z => by rw [z, hA1] at hT1; cases hT1) hT1
        have hk3 : H3 kk = some (.tup ((kOf told).map kV)) := k1 _ _ (fun z => by rw [z, hA1] at hk1; cases hk1) hk1
        have dpI : ∀ (H : Hp) (ns : List Int), DpAll K H (ns.map V.int) (ns.map PyData.int) := fun H ns => by
          induction ns with
          | nil => exact .nil
          | cons x ns ih => exact .cons (.int x) ih
        have sh : ∀ ns : List Int, SeqAt.shaped (.list (ns.map PyData.int)) = true := shaped_I
        refine ⟨.ref t, rfl, sz (Nat.zero_le _), fun p np => ?_⟩
        have tp : t ≠ p := ne_of_none hT3 np
        refine ⟨.list (told.map .int), .list [], .lst (.inl (.inl (by rw [upd_ne tp]; exact hT3))) (dpI _ told), .lst (.inl (.inl upd_same)) .nil, sh told, sh [], _, rfl, ?_⟩
        have kp : ∀ b o, H3 b = some o → (upd H3 p (.lst [])) b = some o := fun b o e => by rw [upd_ne (ne_of_none e np)]; exact e
        have fin2 : ∀ v, v = V.int (countN told) → (∃ x, some (some (V.ref a)) = some (some x) ∧ ∃ y, some (some (V.ref kk)) = some (some y) ∧ ∃ a' H4, x = V.ref a' ∧ DPut (upd H3 p (.lst [])) a' y v H4 ∧ ∃ x2, some (some (V.ref a)) = some (some x2) ∧ ∃ y2, some (some (V.ref kk)) = some (some y2) ∧ ∃ a2 v2, x2 = V.ref a2 ∧ DGet H4 a2 y2 (some v2) ∧ Q v2 H4) := fun v hv => by
          subst hv
          obtain ⟨g1, g2⟩ := k3.put hp
          refine ⟨_, rfl, _, rfl, a, _, rfl, DPut.t (kp _ _ k2) (kp _ _ hk3) k3.len, _, rfl, _, rfl, a, .int (countN told), rfl, ?_, ?_⟩
          · rw [← g2]
            have kne : kk ≠ a := fun z => by rw [z, hA1] at hk1; cases hk1
            exact DGet.t upd_same (by rw [upd_ne kne]; exact kp _ _ hk3)
          · refine fin _ _ (fun b o hb e => ?_) upd_same g1
            rw [upd_ne hb]
            exact kp b o (k1 b o hb e)
        cases told with
        | nil =>
          have e : PyData.eqv (.list (([] : List Int).map .int)) (.list []) = true := by simp [PyData.eqv, PyData.eqvAll]
          rw [e]
          exact iteF (fin2 _ (by rw [po.rec_, if_pos rfl]))
        | cons x r =>
          have e : PyData.eqv (.list ((x :: r).map .int)) (.list []) = false := by simp [PyData.eqv, PyData.eqvAll]
          rw [e]
          exact iteT ⟨_, rfl, fin2 _ (by rw [po.rec_, if_neg (by simp)])⟩
    · cases hv : valV kvs (kOf told) with
      | none => rw [hv] at e; cases e
      | some v =>
        have := hK.get hv
        subst this
        exact ⟨_, rfl, _, rfl, a, _, rfl, (by rw [← hv]; exact DGet.t hA1 hk1), fin H1 kvs (fun b o _ h => h) hA1 hK⟩
end
end My
namespace My
open PySem PySem.Spec PyProof.Rows L2 TL
/-! ### all shapes of few places -/
def okL (n : Int) (row : List Int) (l : Int) : Bool := (decide (row = []) || decide (l ≤ row.getLastD 0)) && decide (row.sum + l ≤ n)
def extJ (n : Int) (row : List Int) (j : Nat) : List (List Int) := ((List.range j).filter fun (i : Nat) => okL n row (1 + i)).map fun (i : Nat) => row ++ [(1 + i : Int)]
def extN (n : Int) (row : List Int) : List (List Int) := extJ n row (n - row.sum + 1 - 1).toNat
def moreN (n : Int) (rows : List (List Int)) : List (List Int) := rows.flatMap (extN n)
def stN (n : Int) (st : List (List Int) × List (List Int)) : List (List Int) × List (List Int) :=
  (st.1 ++ (moreN n st.2).filter (fun row => decide (row.sum = n)), (moreN n st.2).filter fun row => decide (row.sum < n))
def stI (n : Int) : Nat → List (List Int) × List (List Int)
  | 0 => ([], [[]])
  | i + 1 => stN n (stI n i)
def shapesN (n : Nat) : List (List Int) := (stI n n).1
def okRows (n : Int) (rows : List (List Int)) : Bool := decide (rows.length ≤ 100) && rows.all fun row => decide (0 ≤ row.sum ∧ row.sum ≤ n) && decide (row.length ≤ 7)
theorem st_ok : ((List.range 7).all fun n => (List.range n).all fun i => okRows n (stI n i).2 && okRows n (moreN n (stI n i).2) && decide ((stI n i).1.length ≤ 100)) = true := by decide +kernel
structure RowsOk (n : Int) (rows : List (List Int)) : Prop where
  len : rows.length ≤ 100
  row : ∀ r ∈ rows, 0 ≤ r.sum ∧ r.sum ≤ n ∧ r.length ≤ 7
theorem rows_of {n : Int} {rows : List (List Int)} (h : okRows n rows = true) : RowsOk n rows := by
  simp only [okRows, Bool.and_eq_true, decide_eq_true_eq, List.all_eq_true] at h
  exact ⟨h.1, fun r m => ⟨(h.2 r m).1.1, (h.2 r m).1.2, (h.2 r m).2⟩⟩
theorem st_rows {n i : Nat} (hn : n < 7) (hi : i < n) : RowsOk n (stI n i).2 ∧ RowsOk n (moreN n (stI n i).2) ∧ (stI n i).1.length ≤ 100 := by
  have h := List.all_eq_true.mp (List.all_eq_true.mp st_ok n (List.mem_range.mpr hn)) i (List.mem_range.mpr hi)
  rw [Bool.and_eq_true, Bool.and_eq_true, decide_eq_true_eq] at h
  exact ⟨rows_of h.1.1, rows_of h.1.2, h.2⟩
def pShapes : Prom := fun cs Q => ∃ (n : Nat) (m : D), cs = [.sh (.int n), .sh m] ∧ n < 7 ∧ Q (eT (shapesN n))
theorem atI_last {ns : List Int} (h : ns ≠ []) : atI (ns.map PyData.int) (-1) = some (.int (ns.getLastD 0)) := by
  have hl : 0 < ns.length := List.length_pos_iff.mpr h
  have e : ixN (ns.map PyData.int).length (-1) = some (ns.length - 1) := by
    unfold ixN
    rw [List.length_map]
    rw [if_neg (by decide), if_pos (by omega)]
    congr 1
    omega
  unfold atI
  rw [e]
  show (ns.map PyData.int)[ns.length - 1]? = _
  rw [List.getElem?_map, List.getLastD_eq_getLast?, List.getLast?_eq_getElem?]
  rw [List.getElem?_eq_getElem (by omega)]
  rfl
theorem eqv_nil (ns : List Int) : PyData.eqv (eI ns) (.list []) = decide (ns = []) := by
  cases ns with
  | nil => simp [PyData.eqv, PyData.eqvAll]
  | cons a b => simp [PyData.eqv, PyData.eqvAll]
abbrev s_law_shapes : Stmt := topS 13
theorem sc_law_shapes : FnScope ["n", "most", "found", "rows", "step", "more", "row", "length"] ["n", "most"] (defScope s_law_shapes) := ⟨rfl, rfl, rfl, by decide +kernel, rfl, by decide +kernel, by decide +kernel⟩
section
variable {P : Program} {w : World} {K : Fg} {mg : Str → Option Value} {base : Heap}
theorem ok_shapes (D : Df K mg "_law_shapes" s_law_shapes ["n", "most"]) (m_sum : mg "sum" = none) (m_range : mg "range" = none) : Cal P w K mg base "_law_shapes" 1 ["n", "most"] pShapes := by
  have nd := sc_law_shapes.nd
  refine cal_ok D sc_law_shapes (fun cs Q ⟨n, m, h, _⟩ => by rw [h]; rfl) (fun f cdv A outer s H E hr => ⟨_, by exact
(vss_cons (vs_set (n := 2) nd rfl (vc_lst vl_nil))
    (vss_cons (vs_set (n := 3) nd rfl (vc_lst (vl_cons (vc_lst vl_nil) vl_nil)))
    (vss_cons (vs_for (vi_rng1 (se_var (pv 0)) (by rfl) m_range) (vn_name (n := 4) nd rfl).vg
      (vss_cons (vs_set (n := 5) nd rfl (vc_lst vl_nil))
      (vss_cons (vs_frz 3 (vs_for (vi_seq (vc_var (pv 3))) (vn_name (n := 6) nd rfl).vg
        (vss_one (vs_for (vi_rng2 vc_int.se (vc_add (vc_sub (se_var (pv 0)) (vc_sum (se_var (pv 6)) (by rfl) m_sum).se).se vc_int.se).se (by rfl) m_range) (vn_name (n := 7) nd rfl).vg
          (vss_one (vs_if (wb_and (wb_or (vb_cmp (op_eqA hr.units) ok_eq (se_var (pv 6)) (vc_lst vl_nil).se) (wb_or1 (vb_cmp op_le ok_le (se_var (pv 7)) (vc_ix (se_var (pv 6)) (vc_neg vc_int.se).se).se))).vb (wb_and1 (vb_cmp op_le ok_le (vc_add (vc_sum (se_var (pv 6)) (by rfl) m_sum).se (se_var (pv 7))).se (se_var (pv 0))))).vb
            (vss_one (vs_append 5 (pv 5) (vc_add (se_var (pv 6)) (vc_lst (vl_cons (vc_var (pv 7)) vl_nil)).se)))
            vss_nil))))))
      (vss_cons (vs_set (n := 2) nd rfl (vc_add (se_var (pv 2)) (vc_lc (own := [("row", 6)]) nd (vj_seq (se_var (pv 5))) (blk_ok (N := ["n", "most", "found", "rows", "step", "more", "row", "length"]) (sc := defScope s_law_shapes) (by decide +kernel)) (fun _ _ _ _ _ => (vn_name (n := 6) nd rfl)) (fun _ _ _ _ _ => (vts_one (vb_cmp (op_eqA hr.units) ok_eq (vc_sum (se_var (pv 6)) (by rfl) m_sum).se (se_var (pv 0))))) (fun _ _ _ _ _ => (vc_var (pv 6)))).se))
      (vss_one (vs_setLc (n := 3) nd rfl rfl (sw_true rfl rfl rfl (by decide +kernel)) (own := [("row", 6)]) (vj_seq (se_var (pv 5))) (blk_ok (N := ["n", "most", "found", "rows", "step", "more", "row", "length"]) (sc := defScope s_law_shapes) (by decide +kernel)) (fun _ _ _ _ _ => (vn_name (n := 6) nd rfl)) (fun _ _ _ _ _ => (vts_one (vb_cmp op_lt ok_lt (vc_sum (se_var (pv 6)) (by rfl) m_sum).se (se_var (pv 0))))) (fun _ _ _ _ _ => (vc_var (pv 6)))))))))
    (vss_one (vs_frz 2 (vs_ret (vc_var (pv 2))))))))
    , fun cs Q ⟨n, m, hc, hn, q⟩ => ?_⟩)
  subst hc
  refine ⟨sz (by simp), sz (by simp), sz (by simp), by omega, by omega, fun i ρ => ∃ c4 c5 c6 c7, ρ = [.sh (.int n), .sh m, .ol ((stI n i).1.map eI), .ol ((stI n i).2.map eI), c4, c5, c6, c7], ⟨_, _, _, _, rfl⟩, fun i x ρ hx ⟨c4, c5, c6, c7, hρ⟩ => ?_, fun ρ ⟨c4, c5, c6, c7, hρ⟩ => ?_⟩
  · subst hρ
    obtain ⟨hi, rfl⟩ := rng_get hx
    have so := st_rows hn (by omega : i < n)
    refine ⟨sz (by simp), fun j ρ => ∃ c4 c6 c7, ρ = [.sh (.int n), .sh m, .ol ((stI n i).1.map eI), .sh (eT (stI n i).2), c4, .ol ((moreN n ((stI n i).2.take j)).map eI), c6, c7], ⟨_, _, _, rfl⟩, fun j x ρ hx ⟨c4, c6, c7, hρ⟩ => ?_, fun ρ ⟨c4, c6, c7, hρ⟩ => ?_⟩
    · subst hρ
      obtain ⟨row, hz, rfl⟩ := map_get hx
      have ro := so.1.row row (List.mem_of_getElem? hz)
      refine ⟨row, rfl, by omega, fun k ρ => ∃ c4 c7, ρ = [.sh (.int n), .sh m, .ol ((stI n i).1.map eI), .sh (eT (stI n i).2), c4, .ol ((moreN n ((stI n i).2.take j) ++ extJ n row k).map eI), .sh (eI row), c7], ⟨_, _, by simp only [extJ, List.range_zero, List.filter_nil, List.map_nil, List.append_nil]; rfl⟩, fun k x ρ hx ⟨c4, c7, hρ⟩ => ?_, fun ρ ⟨c4, c7, hρ⟩ => ?_⟩
      · subst hρ
        obtain ⟨hk, rfl⟩ := rng_get hx
        have hS : 0 ≤ row.sum := ro.1
        have step : ∀ b : Bool, okL n row (1 + k) = b → extJ n row (k + 1) = extJ n row k ++ if b = true then [row ++ [(1 + k : Int)]] else [] := fun b hb => by
          unfold extJ
          rw [List.range_succ, List.filter_append, List.map_append]
          congr 1
          cases b with
          | true => simp [hb]
          | false => simp [hb]
        have lens : (moreN n ((stI n i).2.take j) ++ extJ n row k).length ≤ 100 := by
          have hj := lt_of_get hz
          have e1 : (stI n i).2 = (stI n i).2.take j ++ row :: (stI n i).2.drop (j + 1) := by
            have : (stI n i).2[j] = row := by rw [List.getElem?_eq_getElem hj] at hz; exact Option.some.inj hz
            rw [← this, ← List.drop_eq_getElem_cons hj, List.take_append_drop]
          have e2 : moreN n (stI n i).2 = moreN n ((stI n i).2.take j) ++ (extN n row ++ moreN n ((stI n i).2.drop (j + 1))) := by
            have e3 : moreN n (stI n i).2 = moreN n ((stI n i).2.take j ++ row :: (stI n i).2.drop (j + 1)) := congrArg (moreN n) e1
            rw [e3]
            simp [moreN]
          have h1 := so.2.1.len
          rw [e2, List.length_append, List.length_append] at h1
          have h2 : (extJ n row k).length ≤ (extN n row).length := by
            unfold extN extJ
            rw [List.length_map, List.length_map]
            exact ((List.range_sublist.mpr (by omega)).filter _).length_le
          rw [List.length_append]
          omega
        refine ⟨sz (by simp), _, _, rfl, rfl, shaped_I row, shaped_I [], itb (fun e => ?a) (fun e => ?b)⟩
        case' b => 
          have hr : row ≠ [] := fun z => by rw [z] at e; simp [PyData.eqv, PyData.eqvAll] at e
          refine ⟨_, atI_last hr, itd (fun e2 => ?b1) (fun e2 => ?b2)⟩
        case b2 =>
          have := step false (by simp only [okL, decide_eq_false hr, decide_eq_false e2]; rfl)
          exact ⟨_, _, by rw [this]; simp only [Bool.false_eq_true, if_false, List.append_nil]; rfl⟩
        case' a =>
          have ho : (decide (row = []) || decide (1 + (k : Int) ≤ row.getLastD 0)) = true := by
            have e : PyData.eqv (eI row) (.list []) = true := e
            rw [eqv_nil] at e
            rw [e]
            rfl
        case' b1 =>
          have ho : (decide (row = []) || decide (1 + (k : Int) ≤ row.getLastD 0)) = true := by rw [decide_eq_true e2, Bool.or_true]
        all_goals
          refine ⟨row, rfl, itd (fun e3 => ?_) (fun e3 => ?_)⟩
          · have := step true (by unfold okL; rw [ho, decide_eq_true e3]; rfl)
            have e4 : (moreN n ((stI n i).2.take j) ++ extJ n row (k + 1)).map eI = (moreN n ((stI n i).2.take j) ++ extJ n row k).map eI ++ [.list (row.map .int ++ [.int (1 + (k : Int))])] := by rw [this]; simp [eI]
            exact ⟨sz (by simp), sz (by simp; omega), sz' (by simp at lens ⊢; omega), _, _, by rw [e4]; rfl⟩
          · have := step false (by unfold okL; rw [ho, decide_eq_false e3]; rfl)
            exact ⟨_, _, by rw [this]; simp only [Bool.false_eq_true, if_false, List.append_nil]; rfl⟩
      · subst hρ
        rw [rng_len]
        exact ⟨_, _, _, by
          have e : moreN n ((stI n i).2.take (j + 1)) = moreN n ((stI n i).2.take j) ++ extN n row := by
            rw [List.take_add_one, hz]
            simp [moreN]
          rw [e]; rfl⟩
    · subst hρ
      rw [List.length_map, List.take_length]
      have hm := so.2.1
      refine ⟨sz (by have := hm.len; rw [List.length_map]; omega), ?_⟩
      refine lc_map eI eI (fun row => decide (row.sum = n)) (moreN n (stI n i).2) rfl (fun row hrow k1 k2 h1 h2 => ⟨row, rfl, itd (fun e => h1 (decide_eq_true e)) fun e => h2 (decide_eq_false e)⟩) ?_
      have hf := List.length_filter_le (fun row : List Int => decide (row.sum = n)) (moreN n (stI n i).2)
      refine ⟨sz (by have := hm.len; simp; omega), sz (by have := hm.len; rw [List.length_map]; omega), ?_⟩
      refine lc_map eI eI (fun row => decide (row.sum < n)) (moreN n (stI n i).2) rfl (fun row hrow k1 k2 h1 h2 => ⟨row, rfl, itd (fun e => h1 (decide_eq_true e)) fun e => h2 (decide_eq_false e)⟩) ?_
      exact ⟨_, _, _, _, by rw [← List.map_append]; rfl⟩
  · subst hρ
    rw [rng_len]
    exact q
end
end My
namespace My
open PySem PySem.Spec PyProof.Rows L2 TL
/-! ### data of ints that are compared -/
theorem lay_all : ∀ {ds : List PyData}, (∀ d ∈ ds, d.canLay0 = true) → PyData.canLayAll0 ds = true
  | [], _ => by simp [PyData.canLayAll0]
  | d :: ds, h => by
    rw [PyData.canLayAll0, h d List.mem_cons_self, lay_all fun x m => h x (List.mem_cons_of_mem _ m)]
    rfl
theorem dep_all {n : Nat} : ∀ {ds : List PyData}, (∀ d ∈ ds, d.depth ≤ n) → PyData.depthAll ds ≤ n
  | [], _ => by simp [PyData.depthAll]
  | d :: ds, h => by
    rw [PyData.depthAll]
    have h1 := h d List.mem_cons_self
    have h2 := dep_all fun x m => h x (List.mem_cons_of_mem _ m)
    omega
theorem layT (t : List (List Int)) : (eT t).canLay0 = true := by
  rw [PyData.canLay0]
  exact lay_all fun d m => by
    obtain ⟨r, _, rfl⟩ := List.mem_map.mp m
    rw [PyData.canLay0]
    exact layI r
theorem depT (t : List (List Int)) : (eT t).depth ≤ 2 := by
  rw [PyData.depth]
  have : PyData.depthAll (t.map eI) ≤ 1 := dep_all fun d m => by
    obtain ⟨r, _, rfl⟩ := List.mem_map.mp m
    rw [PyData.depth, depI]
    omega
  omega
abbrev TT := List (List Int) × List (List Int)
abbrev eTT (p : TT) : D := .tuple [eT p.1, eT p.2]
theorem layTT (p : TT) : (eTT p).canLay0 = true := by
  rw [PyData.canLay0]
  exact lay_all fun d m => by
    rcases List.mem_cons.mp m with rfl | m
    · exact layT _
    · rw [List.mem_singleton.mp m]
      exact layT _
theorem depTT (p : TT) : (eTT p).depth ≤ 3 := by
  rw [PyData.depth]
  have : PyData.depthAll [eT p.1, eT p.2] ≤ 2 := dep_all fun d m => by
    rcases List.mem_cons.mp m with rfl | m
    · exact depT _
    · rw [List.mem_singleton.mp m]
      exact depT _
  omega
theorem shaped_TT (p : TT) : SeqAt.shaped (eTT p) = true := shaped_of (layTT p) (by have := depTT p; omega)
theorem shaped_TTs (ps : List TT) : SeqAt.shaped (.list (ps.map eTT)) = true := shaped_of (by
    rw [PyData.canLay0]
    exact lay_all fun d m => by
      obtain ⟨r, _, rfl⟩ := List.mem_map.mp m
      exact layTT r) (by
    rw [PyData.depth]
    have : PyData.depthAll (ps.map eTT) ≤ 3 := dep_all fun d m => by
      obtain ⟨r, _, rfl⟩ := List.mem_map.mp m
      exact depTT r
    omega)
theorem eqvAll_map {α : Type} [DecidableEq α] (f : α → PyData) (h : ∀ a b, PyData.eqv (f a) (f b) = decide (a = b)) : ∀ a b : List α, PyData.eqvAll (a.map f) (b.map f) = decide (a = b)
  | [], [] => by simp [PyData.eqvAll]
  | [], _ :: _ => by simp [PyData.eqvAll]
  | _ :: _, [] => by simp [PyData.eqvAll]
  | x :: a, y :: b => by
    rw [List.map_cons, List.map_cons, PyData.eqvAll, h, eqvAll_map f h a b]
    by_cases h1 : x = y <;> by_cases h2 : a = b <;> simp [h1, h2]
theorem eqv_int (a b : Int) : PyData.eqv (.int a) (.int b) = decide (a = b) := by
  by_cases h : a = b <;> simp [PyData.eqv, h]
theorem eqv_I (a b : List Int) : PyData.eqv (eI a) (eI b) = decide (a = b) := by
  rw [PyData.eqv]
  exact eqvAll_map _ eqv_int a b
theorem eqv_T (a b : List (List Int)) : PyData.eqv (eT a) (eT b) = decide (a = b) := by
  rw [PyData.eqv]
  exact eqvAll_map _ eqv_I a b
theorem eqv_TT (a b : TT) : PyData.eqv (eTT a) (eTT b) = decide (a = b) := by
  rw [PyData.eqv]
  rw [PyData.eqvAll, PyData.eqvAll, PyData.eqvAll, eqv_T, eqv_T]
  obtain ⟨a1, a2⟩ := a
  obtain ⟨b1, b2⟩ := b
  by_cases h1 : a1 = b1 <;> by_cases h2 : a2 = b2 <;> simp [h1, h2]
/-! ### all shapes -/
def facI (n : Nat) : Int := (List.range (n - 1)).foldl (fun (w : Int) (k : Nat) => w * (2 + k)) 1
theorem shapes_ok : ((List.range 7).all fun n => ((shapesN n).all isP) && (decide (n = 0) || decide ((shapesN n).foldl (fun t told => t + countN told * countN told) 0 = facI n)) && decide ((shapesN n).length ≤ 100) && ((shapesN n).all fun told => decide (0 ≤ countN told ∧ countN told < 1000)) && ((List.range 8).all fun i => decide ((facI i).natAbs < 10000))) = true := by decide +kernel
theorem facI_lt {n : Nat} (h : n < 8) : (facI n).natAbs < 10000 := by
  have q : ((List.range 8).all fun i => decide ((facI i).natAbs < 10000)) = true := by decide +kernel
  exact of_decide_eq_true (List.all_eq_true.mp q n (List.mem_range.mpr h))
structure ShapesOk (n : Nat) : Prop where
  isp : ∀ told ∈ shapesN n, isP told = true
  sum : (shapesN n).foldl (fun t told => t + countN told * countN told) 0 = facI n
  len : (shapesN n).length ≤ 100
  cnt : ∀ told ∈ shapesN n, 0 ≤ countN told ∧ countN told < 1000
theorem shapesOk {n : Nat} (h0 : 0 < n) (hn : n < 7) : ShapesOk n := by
  have q := List.all_eq_true.mp shapes_ok n (List.mem_range.mpr hn)
  simp only [Bool.and_eq_true, List.all_eq_true, decide_eq_true_eq, Bool.or_eq_true] at q
  obtain ⟨⟨⟨⟨q1, q2⟩, q3⟩, q4⟩, _⟩ := q
  exact ⟨q1, q2.resolve_left (by omega), q3, q4⟩
/-! ### all ways to put points into general place -/
def insAt (k : Int) (row : List Int) (i : Nat) : List Int := row.take i ++ [k] ++ row.drop i
def insAll (k : Int) (row : List Int) : List (List Int) := (List.range (row.length + 1)).map (insAt k row)
def permN : Nat → List (List Int)
  | 0 => [[]]
  | k + 1 => (permN k).flatMap (insAll k)
def ptsN (m : Nat) (row : List Int) : List (Int × Int) := (List.range m).map fun (i : Nat) => ((i : Int), row.getD i 0)
def fLL (xs : List (List Int)) (k : List (List Int) → Bool) : Bool := match xs with
  | [] => k []
  | x :: r => fL x fun x => fLL r fun r => k (x :: r)
theorem fLL_eq : ∀ (xs : List (List Int)) (k : List (List Int) → Bool), fLL xs k = k xs
  | [], _ => rfl
  | x :: r, k => by unfold fLL; rw [fL_eq, fLL_eq r]
def chk (m : Nat) : List (List Int) → List TT → Bool
  | [], _ => true
  | row :: rest, acc => fLL (tabN (ptsN m row)).1 fun a => fLL (tabN (ptsN m row)).2 fun b => decide (shapeN a = shapeN b) && decide (a.length ≤ 5) && decide (b.length ≤ 5) && (acc.all fun p => !decide (p = (a, b))) && chk m rest ((a, b) :: acc)
theorem chk_ok {m : Nat} : ∀ (rows : List (List Int)) (acc : List TT), chk m rows acc = true → ∀ (i : Nat) (row : List Int), rows[i]? = some row → shapeN (tabN (ptsN m row)).1 = shapeN (tabN (ptsN m row)).2 ∧ (tabN (ptsN m row)).1.length ≤ 5 ∧ (tabN (ptsN m row)).2.length ≤ 5 ∧
    (∀ p ∈ acc, p ≠ tabN (ptsN m row)) ∧ ∀ r ∈ rows.take i, tabN (ptsN m r) ≠ tabN (ptsN m row)
  | [], _, _, _, _, h => by simp at h
  | r0 :: rest, acc, h, i, row, hi => by
    unfold chk at h
    rw [fLL_eq, fLL_eq] at h
    simp only [Bool.and_eq_true, decide_eq_true_eq, List.all_eq_true, Bool.not_eq_true', decide_eq_false_iff_not] at h
    obtain ⟨⟨⟨⟨h1, h2⟩, h3⟩, h4⟩, h5⟩ := h
    cases i with
    | zero =>
      have : r0 = row := by simpa using hi
      subst this
      exact ⟨h1, h2, h3, h4, fun r m => by simp at m⟩
    | succ i =>
      obtain ⟨g1, g2, g3, g4, g5⟩ := chk_ok rest _ h5 i row (by simpa using hi)
      refine ⟨g1, g2, g3, fun p m => g4 p (List.mem_cons_of_mem _ m), fun r m => ?_⟩
      rw [List.take_succ_cons] at m
      rcases List.mem_cons.mp m with rfl | m
      · exact g4 _ List.mem_cons_self
      · exact g5 r m
theorem perm_ok : ((List.range 6).all fun m => ((permN m).all fun row => decide (row.length = m)) && decide ((permN m).length ≤ 120) && chk m (permN m) []) = true := by decide +kernel
structure PermOk (m : Nat) : Prop where
  row : ∀ r ∈ permN m, r.length = m
  len : (permN m).length ≤ 120
  chk : chk m (permN m) [] = true
theorem permOk {m : Nat} (h : m < 6) : PermOk m := by
  have q := List.all_eq_true.mp perm_ok m (List.mem_range.mpr h)
  simp only [Bool.and_eq_true, List.all_eq_true, decide_eq_true_eq] at q
  exact ⟨q.1.1, q.1.2, q.2⟩
theorem lex_anti {p q : Int × Int} (h1 : ¬ lexP q p = true) (h2 : ¬ lexP p q = true) : p = q := by
  obtain ⟨a, b⟩ := p
  obtain ⟨c, d⟩ := q
  simp only [lexP, SrtO.lexB] at h1 h2
  by_cases e : a = c
  · subst e
    rw [if_pos rfl, decide_eq_true_eq] at h1 h2
    have : b = d := by omega
    rw [this]
  · rw [if_neg (Ne.symm e), decide_eq_true_eq] at h1
    rw [if_neg e, decide_eq_true_eq] at h2
    omega
theorem pts_sorted (m : Nat) (row : List Int) : (ptsN m row).Pairwise fun p q => ¬ lexP q p = true := by
  unfold ptsN
  rw [List.pairwise_map]
  refine List.pairwise_lt_range.imp fun {i j} h => ?_
  simp only [lexP, SrtO.lexB]
  rw [if_neg (by omega), decide_eq_true_eq]
  omega
theorem pts_only {m : Nat} {row : List Int} {qs : List (Int × Int)} (hp : qs.Perm (ptsN m row)) (hs : qs.Pairwise fun p q => ¬ lexP q p = true) : qs = ptsN m row :=
  List.Perm.eq_of_pairwise (le := fun p q => ¬ lexP q p = true) (fun p q _ _ h1 h2 => lex_anti h1 h2) hs (pts_sorted m row) hp
end My
namespace My
open PySem PySem.Spec PyProof.Rows L2 TL
/-! ### the law -/
def KnownI : MI := fun _ o => ∃ kvs, o = .dT kvs ∧ KI kvs
def pLC (n : Nat) : Prom := fun cs Q => ∃ told : List Int, cs = [.sh (eI told), .mo KnownI] ∧ isP told = true ∧ told.sum < n ∧ Q (.int (countN told))
/-- descending, from 1 on -/
structure Desc (ls : List Int) : Prop where
  pos : ∀ l ∈ ls, 1 ≤ l
  srt : ls.Pairwise fun a b => b ≤ a
  last : ∀ l ∈ ls, ls.getLastD 0 ≤ l
theorem Desc.nil : Desc [] := ⟨fun _ m => (nomatch m), .nil, fun _ m => (nomatch m)⟩
theorem Desc.add {ls : List Int} (h : Desc ls) {x : Int} (hx : 1 ≤ x) (hl : ls ≠ [] → x ≤ ls.getLastD 0) : Desc (ls ++ [x]) := by
  have le : ∀ l ∈ ls, x ≤ l := fun l m => by
    have := hl (fun z => by rw [z] at m; cases m)
    have := h.last l m
    omega
  refine ⟨fun l m => ?_, ?_, fun l m => ?_⟩
  · rcases List.mem_append.mp m with m | m
    · exact h.pos l m
    · rw [List.mem_singleton.mp m]; exact hx
  · rw [List.pairwise_append]
    exact ⟨h.srt, List.pairwise_singleton _ _, fun a ha b hb => by rw [List.mem_singleton.mp hb]; exact le a ha⟩
  · have : (ls ++ [x]).getLastD 0 = x := by simp [List.getLastD_eq_getLast?]
    rw [this]
    rcases List.mem_append.mp m with m | m
    · exact le l m
    · rw [List.mem_singleton.mp m]; exact Int.le_refl _
theorem Desc.isP {ls : List Int} (h : Desc ls) (hs : ls.sum < 15) : isP ls = true := by
  simp only [My.isP, Bool.and_eq_true, List.all_eq_true, decide_eq_true_eq]
  exact ⟨⟨fun l m => by have := h.pos l m; omega, h.srt⟩, by omega⟩
section
variable {P : Program} {w : World} {K : Fg} {mg : Str → Option Value} {base : Heap}
theorem lcount_T {n k : Nat} {x : Str} {ps : List Str} (c : CalR P w K mg base x k ps (spLC n)) : Cal P w K mg base x k ps (pLC n) := c.imp fun vs H Q E ⟨F, Ω, cs, G, wd, r, ⟨told, hc, hp, hs, hq⟩, kk⟩ => by
  subst hc
  match vs, r with
  | [v1, v2], ⟨_, ⟨r1, _⟩, _, ⟨a, e1, e2, _⟩, _⟩ =>
    subst e1
    cases r1 with
    | lst eF q =>
      rename_i t vs'
      cases ints_of q
      obtain ⟨hf, ⟨o, ho, kvs, hoo, hK⟩, hm⟩ := wd.om a _ e2
      subst hoo
      refine ⟨_, a, told, kvs, rfl, wd.sub.lst eF, hp, hs, ho, hK, fun H' kvs' k1 k2 k3 => kk (.int (countN told)) _ F Ω H' ?_ (.int _) hq⟩
      have na : ∀ b, Ω b = none → b ≠ a := fun b h z => by rw [z, e2] at h; cases h
      have nf : ∀ b u, F b = some u → b ≠ a := fun b u h z => by rw [z, hf] at h; cases h
      refine ⟨Gr.refl _, fun _ _ => rfl, fun b o e h => k1 b o (na b h) e, fun b hb => ?_, fun _ _ h => h, fun _ _ => rfl, ⟨fun b u e => ?_, fun b J e => ?_⟩⟩
      · by_cases z : b = a
        · rw [z, k2]; simp
        · cases hh : H b with
          | none => exact absurd hh hb
          | some u => rw [k1 b u z hh]; simp
      · rcases wd.sub b u e with h | ⟨z, o, h⟩
        · exact .inl (k1 b u (nf b u e) h)
        · exact .inr ⟨z, o, k1 b _ (nf b u e) h⟩
      · by_cases z : b = a
        · subst z
          rw [e2] at e
          cases e
          exact ⟨hf, ⟨_, k2, kvs', rfl, k3⟩, hm⟩
        · obtain ⟨g1, ⟨u, gu, gi⟩, gm⟩ := wd.om b J e
          exact ⟨g1, ⟨u, k1 b u z gu, gi⟩, gm⟩
abbrev s_law : Stmt := topS 15
theorem sc_law : FnScope ["script", "pool", "n", "known", "whole", "k", "total", "told", "number", "lengths", "left", "length", "many", "rows", "more", "row", "pairs", "at"] ["script"] (defScope s_law) := ⟨rfl, rfl, rfl, by decide +kernel, rfl, by decide +kernel, by decide +kernel⟩
theorem ok_law {f : Addr} {fd : FuncData} (F : Fun K "law" "law" s_law f fd) (c_pool : CalR P w K mg base "_law_pool" 3 ["script"] (spPool K)) (c_law_draw : Cal P w K mg base "_law_draw" 3 ["pool", "limit"] (pDraw K))
    (c_law_shapes : Cal P w K mg base "_law_shapes" 1 ["n", "most"] pShapes) (c_count : Cal P w K mg base "count" 2 ["told"] pCount) (c_columns : Cal P w K mg base "columns" 1 ["told"] pColumns)
    (c_law_same : Cal P w K mg base "_law_same" 1 ["due", "answer"] (pSame 1)) (c_law_count : Cal P w K mg base "_law_count" 15 ["told", "known"] (pLC 15))
    (c_tables_of : Cal P w K mg base "tables_of" 3 ["points"] pTables) (c_shape : Cal P w K mg base "shape" 1 ["table"] pShape)
    (m_range : mg "range" = none) (m_list : mg "list" = none) (m_min : mg "min" = none) (m_sum : mg "sum" = none) (m_len : mg "len" = none) : FnOk P w K mg base CX0 17 f fd ["script"] (spLaw K) := by
  have nd := sc_law.nd
  refine F.ok sc_law (fun vs H Q E ⟨a, ns, h, _⟩ => by rw [h]; rfl) (fun cdv A outer s H vs Q E hr ⟨sa, ns, hv, hS, hl, q⟩ => ?_)
  subst hv
  have hu65 := Room.units65 hr
  refine ⟨_, pss_cons (ps_set (i := 1) nd rfl (.inl rfl) (pe_cal c_pool (hr.mono (by decide)) (pa_cons (pv 0) pa_nil))) (VSs.pss (by exact
(vss_cons (vs_set (n := 2) nd rfl (vc_add vc_int.se (vc_cal c_law_draw (hr.mono (by decide)) (va_cons (vc_var (pv 1)) (va_cons vc_int va_nil))).se))
    (vss_cons (vs_set (n := 3) nd rfl vc_newT)
    (vss_cons (vs_pub KnownI 3 (vs_set (n := 4) nd rfl vc_int))
    (vss_cons (vs_for (vi_rng2 vc_int.se (vc_add (se_var (pv 2)) vc_int.se).se (by rfl) m_range) (vn_name (n := 5) nd rfl).vg
      (vss_one (vs_set (n := 4) nd rfl (vc_mul (se_var (pv 4)) (se_var (pv 5))))))
    (vss_cons (vs_set (n := 6) nd rfl vc_int)
    (vss_cons (vs_for (vi_seq (vc_cal c_law_shapes (hr.mono (by decide)) (va_cons (vc_var (pv 2)) (va_cons (vc_var (pv 2)) va_nil)))) (vn_name (n := 7) nd rfl).vg
      (vss_cons (vs_set (n := 8) nd rfl (vc_cal c_count (hr.mono (by decide)) (va_cons (vc_list (se_var (pv 7)) (by rfl) m_list) va_nil)))
      (vss_cons (vs_if (wb_or (vb_not (vb_tru (vc_cal c_law_same (hr.mono (by decide)) (va_cons (vc_cal c_law_count (hr.mono (by decide)) (va_cons (vc_var (pv 7)) (va_cons (vc_var (pv 3)) va_nil))) (va_cons (vc_var (pv 8)) va_nil))).se)) (wb_or1 (vb_cmp (op_neA hr.units) ok_ne (vc_cal c_count (hr.mono (by decide)) (va_cons (vc_cal c_columns (hr.mono (by decide)) (va_cons (vc_var (pv 7)) va_nil)) va_nil)).se (se_var (pv 8))))).vb
        (vss_one (vs_ret vc_bl))
        vss_nil)
      (vss_one (vs_set (n := 6) nd rfl (vc_add (se_var (pv 6)) (vc_mul (se_var (pv 8)) (se_var (pv 8))).se))))))
    (vss_cons (vs_if (wb_or (vb_cmp (op_neA hr.units) ok_ne (se_var (pv 6)) (se_var (pv 4))) (wb_or1 (vb_cmp (op_neA hr.units) ok_ne (vc_cal c_count (hr.mono (by decide)) (va_cons (vc_lst vl_nil) va_nil)).se vc_int.se))).vb
      (vss_one (vs_ret vc_bl))
      vss_nil)
    (vss_cons (vs_set (n := 9) nd rfl (vc_lst vl_nil))
    (vss_cons (vs_set (n := 10) nd rfl (vc_add vc_int.se (vc_cal c_law_draw (hr.mono (by decide)) (va_cons (vc_var (pv 1)) (va_cons vc_int va_nil))).se))
    (vss_cons (vs_cut (vs_for (vi_rng1 vc_int.se (by rfl) m_range) (vn_name (n := 5) nd rfl).vg
      (vss_cons (vs_set (n := 11) nd rfl (vc_add vc_int.se (vc_cal c_law_draw (hr.mono (by decide)) (va_cons (vc_var (pv 1)) (va_cons (vc_min2 (se_var (pv 10)) (se_if (vb_cmp (op_neA hr.units) ok_ne (se_var (pv 9)) (vc_lst vl_nil).se) (vc_ix (se_var (pv 9)) (vc_neg vc_int.se).se).se (se_var (pv 10))) (by rfl) m_min) va_nil))).se))
      (vss_cons (vs_append 9 (pv 9) (vc_var (pv 11)))
      (vss_cons (vs_set (n := 10) nd rfl (vc_sub (se_var (pv 10)) (se_var (pv 11))))
      (vss_one (vs_if (vb_cmp (op_eqA hr.units) ok_eq (se_var (pv 10)) vc_int.se)
        (vss_one vs_break)
        vss_nil)))))))
    (vss_cons (vs_cut (vs_frz 9 (vs_if (wb_and (vb_cmp op_lt ok_lt (vc_sum (se_var (pv 9)) (by rfl) m_sum).se vc_int.se) (wb_and1 (vb_not (vb_tru (vc_cal c_law_same (hr.mono (by decide)) (va_cons (vc_cal c_law_count (hr.mono (by decide)) (va_cons (vc_var (pv 9)) (va_cons (vc_var (pv 3)) va_nil))) (va_cons (vc_cal c_count (hr.mono (by decide)) (va_cons (vc_list (se_var (pv 9)) (by rfl) m_list) va_nil)) va_nil))).se)))).vb
      (vss_one (vs_ret vc_bl))
      vss_nil)))
    (vss_cons (vs_set (n := 12) nd rfl (vc_add vc_int.se (vc_cal c_law_draw (hr.mono (by decide)) (va_cons (vc_var (pv 1)) (va_cons vc_int va_nil))).se))
    (vss_cons (vs_set (n := 13) nd rfl (vc_lst (vl_cons (vc_lst vl_nil) vl_nil)))
    (vss_cons (vs_frz 13 (vs_for (vi_rng1 (se_var (pv 12)) (by rfl) m_range) (vn_name (n := 5) nd rfl).vg
      (vss_cons (vs_set (n := 14) nd rfl (vc_lst vl_nil))
      (vss_cons (vs_frz 13 (vs_for (vi_seq (vc_var (pv 13))) (vn_name (n := 15) nd rfl).vg
        (vss_one (vs_set (n := 14) nd rfl (vc_add (se_var (pv 14)) (vc_lc (own := [("at", 17)]) nd (vi_rng1 (vc_add (vc_len (se_var (pv 15)) (by rfl) m_len).se vc_int.se).se (by rfl) m_range).vj (blk_ok (N := ["script", "pool", "n", "known", "whole", "k", "total", "told", "number", "lengths", "left", "length", "many", "rows", "more", "row", "pairs", "at"]) (sc := defScope s_law) (by decide +kernel)) (fun _ _ _ _ _ => (vn_name (n := 17) nd rfl)) (fun _ _ _ _ _ => vts_nil) (fun _ _ _ _ _ => (vc_add (vc_add (vc_sl (se_var (pv 15)) vo_none (vo_some (se_var (pv 17)))).se (vc_lst (vl_cons (vc_var (pv 5)) vl_nil)).se).se (vc_sl (se_var (pv 15)) (vo_some (se_var (pv 17))) vo_none).se))).se)))))
      (vss_one (vs_frz 14 (vs_set (n := 13) nd rfl (vc_var (pv 14)))))))))
    (vss_cons (vs_set (n := 16) nd rfl (vc_lst vl_nil))
    (vss_cons (vs_frz 13 (vs_for (vi_seq (vc_var (pv 13))) (vn_name (n := 15) nd rfl).vg
      (vss_cons (vs_set (n := 7) nd rfl (vc_cal c_tables_of (hr.mono (by decide)) (va_cons (vc_lc (own := [("at", 17)]) nd (vi_rng1 (se_var (pv 12)) (by rfl) m_range).vj (blk_ok (N := ["script", "pool", "n", "known", "whole", "k", "total", "told", "number", "lengths", "left", "length", "many", "rows", "more", "row", "pairs", "at"]) (sc := defScope s_law) (by decide +kernel)) (fun _ _ _ _ _ => (vn_name (n := 17) nd rfl)) (fun _ _ _ _ _ => vts_nil) (fun _ _ _ _ _ => (vc_tup (vl_cons (vc_var (pv 17)) (vl_cons (vc_ix (se_var (pv 15)) (se_var (pv 17))) vl_nil))))) va_nil)))
      (vss_cons (vs_if (wb_or (vb_cmp (op_inD hu65) ok_in (se_var (pv 7)) (se_var (pv 16))) (wb_or1 (vb_cmp (op_neA hr.units) ok_ne (vc_cal c_shape (hr.mono (by decide)) (va_cons (vc_ix (se_var (pv 7)) vc_int.se) va_nil)).se (vc_cal c_shape (hr.mono (by decide)) (va_cons (vc_ix (se_var (pv 7)) vc_int.se) va_nil)).se))).vb
        (vss_one (vs_ret vc_bl))
        vss_nil)
      (vss_one (vs_append 16 (pv 16) (vc_var (pv 7))))))))
    (vss_one (vs_ret vc_bl))))))))))))))))))
    ) B0), ?_⟩
  refine ⟨.ref sa, rfl, sa, ns, rfl, hS, hl, fun r p hp => law_go (n := 16) hS hl hp q ?_⟩
  refine ⟨sa, 6, rfl, by decide, by decide, fun v v0 v1 => ?_⟩
  obtain ⟨m, rfl⟩ := Int.eq_ofNat_of_zero_le v0
  obtain ⟨n, hn⟩ : ∃ n : Nat, n = 1 + m := ⟨_, rfl⟩
  have n0 : 0 < n := by omega
  have n7 : n < 7 := by omega
  have so := shapesOk n0 n7
  refine ⟨_, _, rfl, rfl, fun F => ⟨[], rfl, List.nodup_nil, fun _ m => (nomatch m)⟩, fun _ _ _ _ h => h, ?_⟩
  -- the factorial
  refine ⟨by omega, fun i ρ => ∃ c5, ρ = [.un, .mo (PoolI K sa), .sh (.int n), .mo KnownI, .sh (.int (facI (i + 1))), c5, .un, .un, .un, .un, .un, .un, .un, .un, .un, .un, .un, .un], ⟨_, by rw [hn]; rfl⟩, fun i x ρ hx ⟨c5, hρ⟩ => ?_, fun ρ ⟨c5, hρ⟩ => ?_⟩
  · subst hρ
    obtain ⟨hi, rfl⟩ := rng_get hx
    have hb := facI_lt (n := i + 1) (by omega)
    exact ⟨.inl ⟨by omega, by omega⟩, _, by
      have e : facI (i + 1 + 1) = facI (i + 1) * (2 + (i : Int)) := by
        show (List.range (i + 1)).foldl (fun (w : Int) (k : Nat) => w * (2 + k)) 1 = (List.range i).foldl (fun (w : Int) (k : Nat) => w * (2 + k)) 1 * (2 + (i : Int))
        rw [List.range_succ, List.foldl_append]
        rfl
      rw [e]; rfl⟩
  subst hρ
  rw [rng_len, show (1 + (m : Int) + 1 - 2).toNat + 1 = n by omega]
  -- all shapes
  refine ⟨n, _, rfl, n7, fun i ρ => ∃ c5 c7 c8, ρ = [.un, .mo (PoolI K sa), .sh (.int n), .mo KnownI, .sh (.int (facI n)), c5, .sh (.int (((shapesN n).take i).foldl (fun t told => t + countN told * countN told) 0)), c7, c8, .un, .un, .un, .un, .un, .un, .un, .un, .un], ⟨_, _, _, rfl⟩, fun i x ρ hx ⟨c5, c7, c8, hρ⟩ => ?_, fun ρ ⟨c5, c7, c8, hρ⟩ => ?_⟩
  · subst hρ
    obtain ⟨told, ht, rfl⟩ := map_get hx
    have hm := List.mem_of_getElem? ht
    have hp := so.isp told hm
    have po := part_ok hp
    have hc := so.cnt told hm
    refine ⟨told, rfl, shape_ok hp, told, rfl, hp, by have := po.sum; omega, .int _, rfl, by show 0 < 1; decide, rfl, ?_⟩
    refine ⟨told, rfl, by have := po.len; omega, fun l m => by have := po.ent l m; omega, colN told, rfl, shape_ok po.colP, itn (fun z => absurd po.col z) (fun _ => ?_)⟩
    exact ⟨.inl ⟨by omega, by omega⟩, _, _, _, by
      rw [List.take_add_one, ht, Option.toList_some, List.foldl_append]; rfl⟩
  subst hρ
  rw [List.length_map, List.take_length, so.sum]
  have cn : countN [] = 1 := by decide +kernel
  refine itn (fun z => absurd rfl z) (fun _ => ⟨sz (by simp), [], rfl, shape_ok (by decide +kernel), ?_⟩)
  -- a drawn shape
  refine ⟨sz (by simp), sa, 24, rfl, by decide, by decide, fun u u0 u1 => ?_⟩
  refine ⟨fun ρ => ∃ (ls : List Int) (c5 c7 c8 c10 c11 : C), ρ = [.un, .mo (PoolI K sa), .sh (.int n), .mo KnownI, .sh (.int (facI n)), c5, .sh (.int (facI n)), c7, c8, .ol (ls.map .int), c10, c11, .un, .un, .un, .un, .un, .un] ∧ Desc ls ∧ ls.length ≤ 24, ?_, ?_⟩
  · refine ⟨by decide, by decide, fun i ρ => ∃ (ls : List Int) (left : Int) (c5 c7 c8 c11 : C), ρ = [.un, .mo (PoolI K sa), .sh (.int n), .mo KnownI, .sh (.int (facI n)), c5, .sh (.int (facI n)), c7, c8, .ol (ls.map .int), .sh (.int left), c11, .un, .un, .un, .un, .un, .un] ∧ Desc ls ∧ ls.length = i ∧ 1 ≤ left ∧ left ≤ 24,
      ⟨[], _, _, _, _, _, rfl, Desc.nil, rfl, by omega, by omega⟩, fun i x ρ hx ⟨ls, left, c5, c7, c8, c11, hρ, hd, hl, l1, l2⟩ => ?_, fun ρ ⟨ls, left, c5, c7, c8, c11, hρ, hd, hl, l1, l2⟩ => ⟨ls, _, _, _, _, _, hρ, hd, by rw [rng_len] at hl; omega⟩⟩
    subst hρ
    obtain ⟨hi, rfl⟩ := rng_get hx
    have hi : i < 24 := hi
    have eI' : ∀ x : Int, ls.map PyData.int ++ [.int x] = (ls ++ [x]).map .int := fun x => by simp
    by_cases hls : ls = []
    case' pos =>
      refine ⟨sz (by simp), _, _, rfl, rfl, shaped_I ls, shaped_I [], ?_⟩
      have e0 : PyData.eqv (eI ls) (.list []) = true := by rw [eqv_nil, decide_eq_true hls]
      show if (!PyData.eqv (eI ls) (.list [])) = true then _ else _
      rw [e0]
      refine iteF ⟨sa, _, rfl, by rw [if_neg (by omega)]; omega, by rw [if_neg (by omega)]; omega, fun v v0 v1 => ?_⟩
      rw [if_neg (by omega)] at v1
      have hx : ls ≠ [] → 1 + v ≤ ls.getLastD 0 := fun z => absurd hls z
    case' neg =>
      refine ⟨sz (by simp), _, _, rfl, rfl, shaped_I ls, shaped_I [], ?_⟩
      have e0 : PyData.eqv (eI ls) (.list []) = false := by rw [eqv_nil, decide_eq_false hls]
      have l1 := hd.pos (ls.getLastD 0) (by
        obtain ⟨y, hy⟩ := List.getLast?_isSome.mpr hls |> Option.isSome_iff_exists.mp
        rw [List.getLastD_eq_getLast?, hy]
        exact List.mem_of_getLast? hy)
      show if (!PyData.eqv (eI ls) (.list [])) = true then _ else _
      rw [e0]
      refine iteT ⟨_, atI_last hls, sa, _, rfl, by split <;> omega, by split <;> omega, fun v v0 v1 => ?_⟩
      have v1 : v < left ∧ v < ls.getLastD 0 := by split at v1 <;> omega
      have hx : ls ≠ [] → 1 + v ≤ ls.getLastD 0 := fun _ => by omega
      have v1 := v1.1
    all_goals
      have hd' := hd.add (x := 1 + v) (by omega) hx
      have hl' : (ls ++ [1 + v]).length = i + 1 := by rw [List.length_append, hl]; rfl
      refine ⟨sz' (by rw [List.length_map]; omega), ?_⟩
      rw [eI']
      refine itd (fun e => ⟨_, _, _, _, _, _, rfl, hd', by omega⟩) (fun e => ⟨_, _, _, _, _, _, rfl, hd', hl', ?_, ?_⟩)
      · omega
      · omega
  · rintro ρ ⟨ls, c5, c7, c8, c10, c11, hρ, hd, hl⟩
    subst hρ
    refine ⟨fun ρ => ∃ c5 c7 c8 c9 c10 c11, ρ = [.un, .mo (PoolI K sa), .sh (.int n), .mo KnownI, .sh (.int (facI n)), c5, .sh (.int (facI n)), c7, c8, c9, c10, c11, .un, .un, .un, .un, .un, .un], ⟨ls, rfl, itd (fun e => ?_) (fun e => ?_)⟩, ?_⟩
    · have hp := hd.isP e
      exact ⟨ls, rfl, hp, e, ls, rfl, shape_ok hp, .int _, rfl, by show 0 < 1; decide, rfl, _, _, _, _, _, _, rfl⟩
    · exact ⟨_, _, _, _, _, _, rfl⟩
    rintro ρ ⟨c5, c7, c8, c9, c10, c11, hρ⟩
    subst hρ
    -- ways to put points
    refine ⟨sa, 5, rfl, by decide, by decide, fun z z0 z1 => ?_⟩
    obtain ⟨m', rfl⟩ := Int.eq_ofNat_of_zero_le z0
    obtain ⟨many, hm⟩ : ∃ many : Nat, many = 1 + m' := ⟨_, rfl⟩
    refine ⟨sz (by simp), sz (by simp), ?_⟩
    refine ⟨by omega, by omega, fun i ρ => ∃ c5 c14 c15 c17, ρ = [.un, .mo (PoolI K sa), .sh (.int n), .mo KnownI, .sh (.int (facI n)), c5, .sh (.int (facI n)), c7, c8, c9, c10, c11, .sh (.int many), .sh (eT (permN i)), c14, c15, .un, c17], ⟨_, _, _, _, by rw [hm]; rfl⟩, fun i x ρ hx ⟨c5, c14, c15, c17, hρ⟩ => ?_, fun ρ ⟨c5, c14, c15, c17, hρ⟩ => ?_⟩
    · subst hρ
      obtain ⟨hi, rfl⟩ := rng_get hx
      have pi := permOk (m := i) (by omega)
      have pj := permOk (m := i + 1) (by omega)
      refine ⟨sz (by simp), fun j ρ => ∃ c15 c17, ρ = [.un, .mo (PoolI K sa), .sh (.int n), .mo KnownI, .sh (.int (facI n)), .sh (.int i), .sh (.int (facI n)), c7, c8, c9, c10, c11, .sh (.int many), .sh (eT (permN i)), .ol ((((permN i).take j).flatMap (insAll i)).map eI), c15, .un, c17], ⟨_, _, by rw [Int.zero_add]; rfl⟩, fun j x ρ hx ⟨c15, c17, hρ⟩ => ?_, fun ρ ⟨c15, c17, hρ⟩ => ?_⟩
      · subst hρ
        obtain ⟨row, hz, rfl⟩ := map_get hx
        have hr := pi.row row (List.mem_of_getElem? hz)
        refine fun _ => ⟨by simp; omega, by simp; omega, sz (by simp [rngD]; omega), ?_⟩
        refine lc_all (fun i : Nat => .int (i : Int)) (fun at' => eI (insAt i row at')) (List.range (row.length + 1)) (by
          have : ((row.map PyData.int).length : Int) + 1 = ((row.length + 1 : Nat) : Int) := by simp
          rw [this]
          exact rng_map) (fun at' hat k1 k2 h1 => iteT ?_) ?_
        · have hat := List.mem_range.mp hat
          refine ⟨sz (by simp), sz (by simp [slD_take]; omega), sz (by simp [slD_take, slD_drop]; omega), ?_⟩
          have e : slD (row.map PyData.int) none (some (at' : Int)) ++ [.int (i : Int)] ++ slD (row.map PyData.int) (some (at' : Int)) none = (insAt i row at').map .int := by
            rw [slD_take, slD_drop]
            simp [insAt]
          rw [e]
          exact h1
        · have hj := lt_of_get hz
          have e1 : permN i = (permN i).take j ++ row :: (permN i).drop (j + 1) := by
            have : (permN i)[j] = row := by rw [List.getElem?_eq_getElem hj] at hz; exact Option.some.inj hz
            rw [← this, ← List.drop_eq_getElem_cons hj, List.take_append_drop]
          have e2 : permN (i + 1) = ((permN i).take j).flatMap (insAll i) ++ (insAll i row ++ ((permN i).drop (j + 1)).flatMap (insAll i)) := by
            show (permN i).flatMap (insAll i) = _
            rw [congrArg (fun l => l.flatMap (insAll (i : Int))) e1]
            simp
          have hl := pj.len
          rw [e2, List.length_append, List.length_append] at hl
          have e3 : ((permN i).take (j + 1)).flatMap (insAll i) = ((permN i).take j).flatMap (insAll i) ++ insAll i row := by
            rw [List.take_add_one, hz]
            simp
          have e4 : (((permN i).take j).flatMap (insAll i)).map eI ++ (List.range (row.length + 1)).map (fun at' => eI (insAt i row at')) = (((permN i).take (j + 1)).flatMap (insAll i)).map eI := by
            rw [e3, List.map_append]
            congr 1
            simp [insAll]
          have l2 : (insAll i row).length = row.length + 1 := by simp [insAll]
          refine ⟨sz (by rw [List.length_map, List.length_map, List.length_range]; omega), ?_⟩
          exact ⟨_, _, by rw [e4]; rfl⟩
      · subst hρ
        rw [List.length_map, List.take_length]
        exact ⟨_, _, _, _, rfl⟩
    · subst hρ
      rw [rng_len, show (1 + (m' : Int)).toNat = many by omega]
      have po := permOk (m := many) (by omega)
      refine ⟨sz (by simp), fun i ρ => ∃ c5 c7 c15 c17, ρ = [.un, .mo (PoolI K sa), .sh (.int n), .mo KnownI, .sh (.int (facI n)), c5, .sh (.int (facI n)), c7, c8, c9, c10, c11, .sh (.int many), .sh (eT (permN many)), c14, c15, .ol ((((permN many).take i).map fun r => tabN (ptsN many r)).map eTT), c17], ⟨_, _, _, _, rfl⟩, fun i x ρ hx ⟨c5, c7, c15, c17, hρ⟩ => ?_, fun ρ ⟨c5, c7, c15, c17, hρ⟩ => ?_⟩
      · subst hρ
        obtain ⟨row, hz, rfl⟩ := map_get hx
        have hr := po.row row (List.mem_of_getElem? hz)
        obtain ⟨g1, g2, g3, _, g5⟩ := chk_ok (permN many) [] po.chk i row hz
        have hl := po.len
        have hi := lt_of_get hz
        refine ⟨by omega, by omega, sz (by simp [rngD]; omega), ?_⟩
        refine lc_all (fun i : Nat => .int (i : Int)) (fun j => eP ((j : Int), row.getD j 0)) (List.range many) rng_map (fun j hj k1 k2 h1 => iteT ?_) ?_
        · have hj := List.mem_range.mp hj
          exact ⟨.int (row.getD j 0), atI_nat (by rw [List.getElem?_map, List.getD_eq_getElem?_getD, List.getElem?_eq_getElem (by omega)]; rfl), sz (by simp), h1⟩
        · refine ⟨ptsN many row, by simp only [ptsN, List.map_map]; rfl, by simp [ptsN]; omega, fun qs hp hs => ?_⟩
          cases pts_only hp hs
          refine ⟨_, _, rfl, rfl, shaped_TT _, shaped_TTs _, ?_⟩
          have e : (((((permN many).take i).map fun r => tabN (ptsN many r)).map eTT).any fun z => PyData.eqv z (eTT (tabN (ptsN many row)))) = false := by
            rw [List.any_eq_false]
            intro z hz
            obtain ⟨t, ht, rfl⟩ := List.mem_map.mp hz
            obtain ⟨r, hr, rfl⟩ := List.mem_map.mp ht
            rw [eqv_TT, decide_eq_true_eq]
            exact g5 r hr
          show if (((((permN many).take i).map fun r => tabN (ptsN many r)).map eTT).any fun z => PyData.eqv z (eTT (tabN (ptsN many row)))) = true then _ else _
          rw [e]
          refine iteF ⟨_, rfl, _, rfl, by omega, _, rfl, _, rfl, by omega, _, _, rfl, rfl, shaped_I _, shaped_I _, ?_⟩
          show if (!PyData.eqv (eI (shapeN (tabN (ptsN many row)).1)) (eI (shapeN (tabN (ptsN many row)).2))) = true then _ else _
          rw [eqv_I, decide_eq_true g1]
          refine iteF ⟨sz' (by simp; omega), _, _, _, _, by
            rw [List.take_add_one, hz, Option.toList_some, List.map_append, List.map_append]; rfl⟩
      · subst hρ
        rfl
end
end My
namespace My
open PySem PySem.Spec PyProof.Rows L2 TL
structure Dfs (K : Fg) (mg : Str → Option Value) : Prop where
  d_placed : Df K mg "placed" s_placed ["row", "number"]
  d_inserted : Df K mg "inserted" s_inserted ["table", "number"]
  d_tables_of : Df K mg "tables_of" s_tables_of ["points"]
  d_shape : Df K mg "shape" s_shape ["table"]
  d_columns : Df K mg "columns" s_columns ["told"]
  d_count : Df K mg "count" s_count ["told"]
  d_law_mixed : Df K mg "_law_mixed" sMixed ["number", "place"]
  d_law_rest : Df K mg "_law_rest" sRest ["script", "place", "fills"]
  d_law_pool : Df K mg "_law_pool" sPool ["script"]
  d_law_draw : Df K mg "_law_draw" sDraw ["pool", "limit"]
  d_law_same : Df K mg "_law_same" s_law_same ["due", "answer"]
  d_law_shapes : Df K mg "_law_shapes" s_law_shapes ["n", "most"]
  d_law_count : Df K mg "_law_count" s_law_count ["told", "known"]
  m_int : mg "int" = none
  m_len : mg "len" = none
  m_enumerate : mg "enumerate" = none
  m_list : mg "list" = none
  m_sorted : mg "sorted" = none
  m_range : mg "range" = none
  m_sum : mg "sum" = none
  m_tuple : mg "tuple" = none
  m_isinstance : mg "isinstance" = none
  m_dict : mg "dict" = none
  m_bool : mg "bool" = none
  m_str : mg "str" = none
  m_all : mg "all" = none
  m_min : mg "min" = none
theorem law_all {P : Program} {w : World} {K : Fg} {mg : Str → Option Value} {base : Heap} {f : Addr} {fd : FuncData} (F : Fun K "law" "law" s_law f fd) (D : Dfs K mg) : FnOk P w K mg base CX0 17 f fd ["script"] (spLaw K) := by
  have c_mixed := ok_mixed (P := P) (w := w) (base := base) D.d_law_mixed D.m_int
  have c_rest := ok_rest (c0 := c_mixed) D.d_law_rest D.m_int D.m_len
  have c_pool := ok_pool (c0 := c_rest) D.d_law_pool
  have c_draw := draw_T (ok_draw (c0 := c_rest) D.d_law_draw D.m_int)
  have c_placed := ok_placed (P := P) (w := w) (base := base) D.d_placed D.m_enumerate
  have c_inserted := ok_inserted D.d_inserted c_placed D.m_enumerate D.m_list D.m_len
  have c_tables := ok_tables D.d_tables_of c_inserted D.m_sorted D.m_len
  have c_shape := ok_shape (P := P) (w := w) (base := base) D.d_shape D.m_len
  have c_columns := ok_columns (P := P) (w := w) (base := base) D.d_columns D.m_len D.m_range
  have c_count := ok_count D.d_count c_columns D.m_sum D.m_range D.m_enumerate
  have c_shapes := ok_shapes (P := P) (w := w) (base := base) D.d_law_shapes D.m_sum D.m_range
  have c_lcount := lcount_T (ok_lcount (P := P) (w := w) (base := base) D.d_law_count D.m_tuple D.m_range D.m_len 15)
  have c_same := ok_same (P := P) (w := w) (base := base) D.d_law_same D.m_isinstance D.m_dict D.m_list D.m_tuple D.m_bool D.m_str D.m_int D.m_len D.m_all D.m_range 1
  exact ok_law F c_pool c_draw c_shapes c_count c_columns c_same c_lcount c_tables c_shape D.m_range D.m_list D.m_min D.m_sum D.m_len
theorem all_mk {l : PySem.W.OpenLaw} {w : World} {K : PySem.W.Frag} {h : Heap} {mg : Str → Option Value} {fa : Addr} (X : K.In h) (G : h.Ns mainGlobals mg) (hfa : mg "law" = some (.ref fa))
    {f0 : Addr} {od0 an0 : Option Addr} {sl0 : Array (Option Value)} {oc0 kV0 dc0 pm0 cd0 ct0 : Value} (a0 : PySem.W.nsIn K mainGlobals "placed" = some (some (.ref f0))) (l0 : K.lookup f0 = some ⟨oc0, od0, .func (PySem.W.fnOf "placed" "placed" (defArgs s_placed) (defBody s_placed) (defScope s_placed) .none kV0 dc0 pm0 an0 cd0 ct0), sl0⟩) (c0 : PySem.W.codeIn K cd0 "placed" = true) (k0 : PySem.W.keepIn K (.ref f0) = true)
    {f1 : Addr} {od1 an1 : Option Addr} {sl1 : Array (Option Value)} {oc1 kV1 dc1 pm1 cd1 ct1 : Value} (a1 : PySem.W.nsIn K mainGlobals "inserted" = some (some (.ref f1))) (l1 : K.lookup f1 = some ⟨oc1, od1, .func (PySem.W.fnOf "inserted" "inserted" (defArgs s_inserted) (defBody s_inserted) (defScope s_inserted) .none kV1 dc1 pm1 an1 cd1 ct1), sl1⟩) (c1 : PySem.W.codeIn K cd1 "inserted" = true) (k1 : PySem.W.keepIn K (.ref f1) = true)
    {f2 : Addr} {od2 an2 : Option Addr} {sl2 : Array (Option Value)} {oc2 kV2 dc2 pm2 cd2 ct2 : Value} (a2 : PySem.W.nsIn K mainGlobals "tables_of" = some (some (.ref f2))) (l2 : K.lookup f2 = some ⟨oc2, od2, .func (PySem.W.fnOf "tables_of" "tables_of" (defArgs s_tables_of) (defBody s_tables_of) (defScope s_tables_of) .none kV2 dc2 pm2 an2 cd2 ct2), sl2⟩) (c2 : PySem.W.codeIn K cd2 "tables_of" = true) (k2 : PySem.W.keepIn K (.ref f2) = true)
    {f3 : Addr} {od3 an3 : Option Addr} {sl3 : Array (Option Value)} {oc3 kV3 dc3 pm3 cd3 ct3 : Value} (a3 : PySem.W.nsIn K mainGlobals "shape" = some (some (.ref f3))) (l3 : K.lookup f3 = some ⟨oc3, od3, .func (PySem.W.fnOf "shape" "shape" (defArgs s_shape) (defBody s_shape) (defScope s_shape) .none kV3 dc3 pm3 an3 cd3 ct3), sl3⟩) (c3 : PySem.W.codeIn K cd3 "shape" = true) (k3 : PySem.W.keepIn K (.ref f3) = true)
    {f4 : Addr} {od4 an4 : Option Addr} {sl4 : Array (Option Value)} {oc4 kV4 dc4 pm4 cd4 ct4 : Value} (a4 : PySem.W.nsIn K mainGlobals "columns" = some (some (.ref f4))) (l4 : K.lookup f4 = some ⟨oc4, od4, .func (PySem.W.fnOf "columns" "columns" (defArgs s_columns) (defBody s_columns) (defScope s_columns) .none kV4 dc4 pm4 an4 cd4 ct4), sl4⟩) (c4 : PySem.W.codeIn K cd4 "columns" = true) (k4 : PySem.W.keepIn K (.ref f4) = true)
    {f5 : Addr} {od5 an5 : Option Addr} {sl5 : Array (Option Value)} {oc5 kV5 dc5 pm5 cd5 ct5 : Value} (a5 : PySem.W.nsIn K mainGlobals "count" = some (some (.ref f5))) (l5 : K.lookup f5 = some ⟨oc5, od5, .func (PySem.W.fnOf "count" "count" (defArgs s_count) (defBody s_count) (defScope s_count) .none kV5 dc5 pm5 an5 cd5 ct5), sl5⟩) (c5 : PySem.W.codeIn K cd5 "count" = true) (k5 : PySem.W.keepIn K (.ref f5) = true)
    {f6 : Addr} {od6 an6 : Option Addr} {sl6 : Array (Option Value)} {oc6 kV6 dc6 pm6 cd6 ct6 : Value} (a6 : PySem.W.nsIn K mainGlobals "_law_mixed" = some (some (.ref f6))) (l6 : K.lookup f6 = some ⟨oc6, od6, .func (PySem.W.fnOf "_law_mixed" "_law_mixed" (defArgs sMixed) (defBody sMixed) (defScope sMixed) .none kV6 dc6 pm6 an6 cd6 ct6), sl6⟩) (c6 : PySem.W.codeIn K cd6 "_law_mixed" = true) (k6 : PySem.W.keepIn K (.ref f6) = true)
    {f7 : Addr} {od7 an7 : Option Addr} {sl7 : Array (Option Value)} {oc7 kV7 dc7 pm7 cd7 ct7 : Value} (a7 : PySem.W.nsIn K mainGlobals "_law_rest" = some (some (.ref f7))) (l7 : K.lookup f7 = some ⟨oc7, od7, .func (PySem.W.fnOf "_law_rest" "_law_rest" (defArgs sRest) (defBody sRest) (defScope sRest) .none kV7 dc7 pm7 an7 cd7 ct7), sl7⟩) (c7 : PySem.W.codeIn K cd7 "_law_rest" = true) (k7 : PySem.W.keepIn K (.ref f7) = true)
    {f8 : Addr} {od8 an8 : Option Addr} {sl8 : Array (Option Value)} {oc8 kV8 dc8 pm8 cd8 ct8 : Value} (a8 : PySem.W.nsIn K mainGlobals "_law_pool" = some (some (.ref f8))) (l8 : K.lookup f8 = some ⟨oc8, od8, .func (PySem.W.fnOf "_law_pool" "_law_pool" (defArgs sPool) (defBody sPool) (defScope sPool) .none kV8 dc8 pm8 an8 cd8 ct8), sl8⟩) (c8 : PySem.W.codeIn K cd8 "_law_pool" = true) (k8 : PySem.W.keepIn K (.ref f8) = true)
    {f9 : Addr} {od9 an9 : Option Addr} {sl9 : Array (Option Value)} {oc9 kV9 dc9 pm9 cd9 ct9 : Value} (a9 : PySem.W.nsIn K mainGlobals "_law_draw" = some (some (.ref f9))) (l9 : K.lookup f9 = some ⟨oc9, od9, .func (PySem.W.fnOf "_law_draw" "_law_draw" (defArgs sDraw) (defBody sDraw) (defScope sDraw) .none kV9 dc9 pm9 an9 cd9 ct9), sl9⟩) (c9 : PySem.W.codeIn K cd9 "_law_draw" = true) (k9 : PySem.W.keepIn K (.ref f9) = true)
    {f10 : Addr} {od10 an10 : Option Addr} {sl10 : Array (Option Value)} {oc10 kV10 dc10 pm10 cd10 ct10 : Value} (a10 : PySem.W.nsIn K mainGlobals "_law_same" = some (some (.ref f10))) (l10 : K.lookup f10 = some ⟨oc10, od10, .func (PySem.W.fnOf "_law_same" "_law_same" (defArgs s_law_same) (defBody s_law_same) (defScope s_law_same) .none kV10 dc10 pm10 an10 cd10 ct10), sl10⟩) (c10 : PySem.W.codeIn K cd10 "_law_same" = true) (k10 : PySem.W.keepIn K (.ref f10) = true)
    {f11 : Addr} {od11 an11 : Option Addr} {sl11 : Array (Option Value)} {oc11 kV11 dc11 pm11 cd11 ct11 : Value} (a11 : PySem.W.nsIn K mainGlobals "_law_shapes" = some (some (.ref f11))) (l11 : K.lookup f11 = some ⟨oc11, od11, .func (PySem.W.fnOf "_law_shapes" "_law_shapes" (defArgs s_law_shapes) (defBody s_law_shapes) (defScope s_law_shapes) .none kV11 dc11 pm11 an11 cd11 ct11), sl11⟩) (c11 : PySem.W.codeIn K cd11 "_law_shapes" = true) (k11 : PySem.W.keepIn K (.ref f11) = true)
    {f12 : Addr} {od12 an12 : Option Addr} {sl12 : Array (Option Value)} {oc12 kV12 dc12 pm12 cd12 ct12 : Value} (a12 : PySem.W.nsIn K mainGlobals "_law_count" = some (some (.ref f12))) (l12 : K.lookup f12 = some ⟨oc12, od12, .func (PySem.W.fnOf "_law_count" "_law_count" (defArgs s_law_count) (defBody s_law_count) (defScope s_law_count) .none kV12 dc12 pm12 an12 cd12 ct12), sl12⟩) (c12 : PySem.W.codeIn K cd12 "_law_count" = true) (k12 : PySem.W.keepIn K (.ref f12) = true)
    {f13 : Addr} {od13 an13 : Option Addr} {sl13 : Array (Option Value)} {oc13 kV13 dc13 pm13 cd13 ct13 : Value} (a13 : PySem.W.nsIn K mainGlobals "law" = some (some (.ref f13))) (l13 : K.lookup f13 = some ⟨oc13, od13, .func (PySem.W.fnOf "law" "law" (defArgs s_law) (defBody s_law) (defScope s_law) .none kV13 dc13 pm13 an13 cd13 ct13), sl13⟩) (c13 : PySem.W.codeIn K cd13 "law" = true) (k13 : PySem.W.keepIn K (.ref f13) = true)
    (z0 : PySem.W.nsIn K mainGlobals "int" = some none)
    (z1 : PySem.W.nsIn K mainGlobals "len" = some none)
    (z2 : PySem.W.nsIn K mainGlobals "enumerate" = some none)
    (z3 : PySem.W.nsIn K mainGlobals "list" = some none)
    (z4 : PySem.W.nsIn K mainGlobals "sorted" = some none)
    (z5 : PySem.W.nsIn K mainGlobals "range" = some none)
    (z6 : PySem.W.nsIn K mainGlobals "sum" = some none)
    (z7 : PySem.W.nsIn K mainGlobals "tuple" = some none)
    (z8 : PySem.W.nsIn K mainGlobals "isinstance" = some none)
    (z9 : PySem.W.nsIn K mainGlobals "dict" = some none)
    (z10 : PySem.W.nsIn K mainGlobals "bool" = some none)
    (z11 : PySem.W.nsIn K mainGlobals "str" = some none)
    (z12 : PySem.W.nsIn K mainGlobals "all" = some none)
    (z13 : PySem.W.nsIn K mainGlobals "min" = some none)
    : ∃ fd : FuncData, (∀ (s : Shared) (v : Value), BindsTo s fd ⟨[v], []⟩ [("script", v)]) ∧ ∀ base : Heap, K.In base → base.Ns mainGlobals mg → FnOk l.prog w K mg base CX0 17 fa fd ["script"] (spLaw K) := by
  have e := hfa.symm.trans (PySem.W.mg_of X G a13)
  cases e
  have D : Dfs K mg := {
    d_placed := df_mk (PySem.W.mg_of X G a0) l0 c0 k0 (fun us hl => match us, hl with | [_, _], _ => rfl)
    d_inserted := df_mk (PySem.W.mg_of X G a1) l1 c1 k1 (fun us hl => match us, hl with | [_, _], _ => rfl)
    d_tables_of := df_mk (PySem.W.mg_of X G a2) l2 c2 k2 (fun us hl => match us, hl with | [_], _ => rfl)
    d_shape := df_mk (PySem.W.mg_of X G a3) l3 c3 k3 (fun us hl => match us, hl with | [_], _ => rfl)
    d_columns := df_mk (PySem.W.mg_of X G a4) l4 c4 k4 (fun us hl => match us, hl with | [_], _ => rfl)
    d_count := df_mk (PySem.W.mg_of X G a5) l5 c5 k5 (fun us hl => match us, hl with | [_], _ => rfl)
    d_law_mixed := df_mk (PySem.W.mg_of X G a6) l6 c6 k6 (fun us hl => match us, hl with | [_, _], _ => rfl)
    d_law_rest := df_mk (PySem.W.mg_of X G a7) l7 c7 k7 (fun us hl => match us, hl with | [_, _, _], _ => rfl)
    d_law_pool := df_mk (PySem.W.mg_of X G a8) l8 c8 k8 (fun us hl => match us, hl with | [_], _ => rfl)
    d_law_draw := df_mk (PySem.W.mg_of X G a9) l9 c9 k9 (fun us hl => match us, hl with | [_, _], _ => rfl)
    d_law_same := df_mk (PySem.W.mg_of X G a10) l10 c10 k10 (fun us hl => match us, hl with | [_, _], _ => rfl)
    d_law_shapes := df_mk (PySem.W.mg_of X G a11) l11 c11 k11 (fun us hl => match us, hl with | [_, _], _ => rfl)
    d_law_count := df_mk (PySem.W.mg_of X G a12) l12 c12 k12 (fun us hl => match us, hl with | [_, _], _ => rfl)
    m_int := PySem.W.mg_none_of X G z0
    m_len := PySem.W.mg_none_of X G z1
    m_enumerate := PySem.W.mg_none_of X G z2
    m_list := PySem.W.mg_none_of X G z3
    m_sorted := PySem.W.mg_none_of X G z4
    m_range := PySem.W.mg_none_of X G z5
    m_sum := PySem.W.mg_none_of X G z6
    m_tuple := PySem.W.mg_none_of X G z7
    m_isinstance := PySem.W.mg_none_of X G z8
    m_dict := PySem.W.mg_none_of X G z9
    m_bool := PySem.W.mg_none_of X G z10
    m_str := PySem.W.mg_none_of X G z11
    m_all := PySem.W.mg_none_of X G z12
    m_min := PySem.W.mg_none_of X G z13
  }
  exact ⟨PySem.W.fnOf "law" "law" (defArgs s_law) (defBody s_law) (defScope s_law) .none kV13 dc13 pm13 an13 cd13 ct13, fun s v => .of_eq rfl, fun base _ _ => law_all (fun_mk l13 c13 k13) D⟩
end My
open PySem PySem.W PyProof.Rows
set_option maxHeartbeats 0 in
theorem PySem.Challenge.cw_boxwood_k99_whole_tables_counted_holds : PySem.Challenge.rw_boxwood_k99_whole_tables_counted.Holds := by
  w_on; o_law; k_head; (case hw => w_witness2)
  k_fill
  refine L2.walk_of (l := PySem.Challenge.rw_boxwood_k99_whole_tables_counted) (n := 63) (k := 17) (x := "script") (CX := fun _ => L2.CX0) (sp := fun w => TL.spLaw _) rfl (by decide) rfl ⟨rfl, by decide, by decide⟩ (fun w h Y => PySem.W.kIn_of Y) ?F (fun _ _ a ns hl _ hS => ⟨a, ns, rfl, hS, hl, fun _ => rfl⟩) (fun _ _ _ _ _ h => h)
  case F =>
    intro w mg fa h KX G hmg
    refine' My.all_mk KX G hmg ?a0 ?l0 ?c0 ?k0 ?a1 ?l1 ?c1 ?k1 ?a2 ?l2 ?c2 ?k2 ?a3 ?l3 ?c3 ?k3 ?a4 ?l4 ?c4 ?k4 ?a5 ?l5 ?c5 ?k5 ?a6 ?l6 ?c6 ?k6 ?a7 ?l7 ?c7 ?k7 ?a8 ?l8 ?c8 ?k8 ?a9 ?l9 ?c9 ?k9 ?a10 ?l10 ?c10 ?k10 ?a11 ?l11 ?c11 ?k11 ?a12 ?l12 ?c12 ?k12 ?a13 ?l13 ?c13 ?k13 ?z0 ?z1 ?z2 ?z3 ?z4 ?z5 ?z6 ?z7 ?z8 ?z9 ?z10 ?z11 ?z12 ?z13
    (case a0 => k_is); (case l0 => k_is); (case c0 => k_is); (case k0 => k_is); (case a1 => k_is); (case l1 => k_is); (case c1 => k_is); (case k1 => k_is); (case a2 => k_is); (case l2 => k_is); (case c2 => k_is); (case k2 => k_is); (case a3 => k_is); (case l3 => k_is); (case c3 => k_is); (case k3 => k_is); (case a4 => k_is); (case l4 => k_is); (case c4 => k_is); (case k4 => k_is); (case a5 => k_is); (case l5 => k_is); (case c5 => k_is); (case k5 => k_is); (case a6 => k_is); (case l6 => k_is); (case c6 => k_is); (case k6 => k_is); (case a7 => k_is); (case l7 => k_is); (case c7 => k_is); (case k7 => k_is); (case a8 => k_is); (case l8 => k_is); (case c8 => k_is); (case k8 => k_is); (case a9 => k_is); (case l9 => k_is); (case c9 => k_is); (case k9 => k_is); (case a10 => k_is); (case l10 => k_is); (case c10 => k_is); (case k10 => k_is); (case a11 => k_is); (case l11 => k_is); (case c11 => k_is); (case k11 => k_is); (case a12 => k_is); (case l12 => k_is); (case c12 => k_is); (case k12 => k_is); (case a13 => k_is); (case l13 => k_is); (case c13 => k_is); (case k13 => k_is); (case z0 => k_is); (case z1 => k_is); (case z2 => k_is); (case z3 => k_is); (case z4 => k_is); (case z5 => k_is); (case z6 => k_is); (case z7 => k_is); (case z8 => k_is); (case z9 => k_is); (case z10 => k_is); (case z11 => k_is); (case z12 => k_is); (case z13 => k_is)
