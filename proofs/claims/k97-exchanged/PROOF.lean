import PyProof.Rows.All
import HandS.ForMost
import HandS.ForExc
import HandS.Deep
import HandS.TupAny
import HandS.SortRule
import HandS.SortInts
import HandS.IsInst
import HandS.Conv
import HandS.Wide
import KE.GoesEnumKw
import HandS.Gcd
import HandS.Style
import KE.SortKeyed
import KE.DataCmp
import HandS.DictComp
import HandS.WordsDict
import HandS.More
import KE.DataMinMax
import HandS.SetFor
import HandS.Strs
import HandS.Zip
import HandS.NoneIn
import KE.GoesEnum
import KE.GoesMore
import HandS.SortKw
import HandS.RaiseMore
import HandS.TupLen
import PySem.Challenge.RW_boxwood_k97_whole_tables_exchanged_and_m
set_option Elab.async false
set_option linter.all false
set_option maxRecDepth 100000
/-! A layer of trees over the abstract heap: what is read is data, what is changed is owned by a slot. -/
namespace TL
open PySem PySem.Spec PyProof.Rows L2
abbrev D := PyData
abbrev Fg := PySem.W.Frag
def kD : Key → D
  | .inl i => .int i
  | .inr x => .str x
def kTD (ks : List Key) : D := .tuple (ks.map kD)

mutual
inductive Rep (K : Fg) (F : Hp) : V → D → Prop
  | non : Rep K F .non .none
  | bl (b : Bool) : Rep K F (.bl b) (.bool b)
  | int (i : Int) : Rep K F (.int i) (.int i)
  | str (x : Str) : Rep K F (.str x) (.str x)
  | lst {a : Addr} {vs : List V} {ds : List D} : F a = some (.lst vs) → Reps K F vs ds → Rep K F (.ref a) (.list ds)
  | tup {a : Addr} {vs : List V} {ds : List D} : F a = some (.tup vs) → Reps K F vs ds → Rep K F (.ref a) (.tuple ds)
  | dK {a : Addr} {kvs : List (Key × V)} {ds : List (D × D)} : F a = some (.dK kvs) → RepK K F kvs ds → Rep K F (.ref a) (.dict ds)
  | dT {a : Addr} {kvs : List (List Key × V)} {ds : List (D × D)} : F a = some (.dT kvs) → kvs ≠ [] → RepT K F kvs ds → Rep K F (.ref a) (.dict ds)
inductive Reps (K : Fg) (F : Hp) : List V → List D → Prop
  | nil : Reps K F [] []
  | cons {v : V} {vs : List V} {d : D} {ds : List D} : Rep K F v d → Reps K F vs ds → Reps K F (v :: vs) (d :: ds)
inductive RepK (K : Fg) (F : Hp) : List (Key × V) → List (D × D) → Prop
  | nil : RepK K F [] []
  | cons {k : Key} {v : V} {kvs : List (Key × V)} {d : D} {ds : List (D × D)} : Rep K F v d → RepK K F kvs ds → RepK K F ((k, v) :: kvs) ((kD k, d) :: ds)
inductive RepT (K : Fg) (F : Hp) : List (List Key × V) → List (D × D) → Prop
  | nil : RepT K F [] []
  | cons {k : List Key} {v : V} {kvs : List (List Key × V)} {d : D} {ds : List (D × D)} : Rep K F v d → RepT K F kvs ds → RepT K F ((k, v) :: kvs) ((kTD k, d) :: ds)
end

/-- grown -/
def Gr (F F' : Hp) : Prop := ∀ a u, F a = some u → F' a = some u
theorem Gr.refl (F : Hp) : Gr F F := fun _ _ h => h
theorem Gr.trans {F F1 F2 : Hp} (h : Gr F F1) (h' : Gr F1 F2) : Gr F F2 := fun a u e => h' a u (h a u e)
theorem Gr.sqT {K : Fg} {F F' : Hp} (g : Gr F F') {a : Addr} {vs : List V} (h : SqT K F a vs) : SqT K F' a vs := by
  rcases h with (h | ⟨o, h⟩) | h
  · exact .inl (.inl (g _ _ h))
  · exact .inl (.inr ⟨o, g _ _ h⟩)
  · exact .inr h
mutual
theorem Rep.gr {K : Fg} {F F' : Hp} (g : Gr F F') : ∀ {v : V} {d : D}, Rep K F v d → Rep K F' v d
  | _, _, .non => .non
  | _, _, .bl b => .bl b
  | _, _, .int i => .int i
  | _, _, .str x => .str x
  | _, _, .lst e r => .lst (g _ _ e) (Reps.gr g r)
  | _, _, .tup e r => .tup (g _ _ e) (Reps.gr g r)
  | _, _, .dK e r => .dK (g _ _ e) (RepK.gr g r)
  | _, _, .dT e n r => .dT (g _ _ e) n (RepT.gr g r)
theorem Reps.gr {K : Fg} {F F' : Hp} (g : Gr F F') : ∀ {vs : List V} {ds : List D}, Reps K F vs ds → Reps K F' vs ds
  | _, _, .nil => .nil
  | _, _, .cons h t => .cons (Rep.gr g h) (Reps.gr g t)
theorem RepK.gr {K : Fg} {F F' : Hp} (g : Gr F F') : ∀ {vs : List (Key × V)} {ds : List (D × D)}, RepK K F vs ds → RepK K F' vs ds
  | _, _, .nil => .nil
  | _, _, .cons h t => .cons (Rep.gr g h) (RepK.gr g t)
theorem RepT.gr {K : Fg} {F F' : Hp} (g : Gr F F') : ∀ {vs : List (List Key × V)} {ds : List (D × D)}, RepT K F vs ds → RepT K F' vs ds
  | _, _, .nil => .nil
  | _, _, .cons h t => .cons (Rep.gr g h) (RepT.gr g t)
end
section
variable {K : Fg} {F : Hp}
theorem Reps.length : ∀ {vs : List V} {ds : List D}, Reps K F vs ds → vs.length = ds.length
  | _, _, .nil => rfl
  | _, _, .cons _ t => congrArg (· + 1) t.length
theorem Reps.append : ∀ {vs us : List V} {ds es : List D}, Reps K F vs ds → Reps K F us es → Reps K F (vs ++ us) (ds ++ es)
  | _, _, _, _, .nil, r => r
  | _, _, _, _, .cons h t, r => .cons h (t.append r)
theorem Reps.take : ∀ (n : Nat) {vs : List V} {ds : List D}, Reps K F vs ds → Reps K F (vs.take n) (ds.take n)
  | 0, _, _, _ => .nil
  | _ + 1, _, _, .nil => .nil
  | n + 1, _, _, .cons h t => .cons h (Reps.take n t)
theorem Reps.drop : ∀ (n : Nat) {vs : List V} {ds : List D}, Reps K F vs ds → Reps K F (vs.drop n) (ds.drop n)
  | 0, _, _, r => r
  | _ + 1, _, _, .nil => .nil
  | n + 1, _, _, .cons _ t => Reps.drop n t
theorem Reps.get : ∀ {vs : List V} {ds : List D} {i : Nat} {d : D}, Reps K F vs ds → ds[i]? = some d → ∃ v, vs[i]? = some v ∧ Rep K F v d
  | _, _, _, _, .nil, e => by simp at e
  | _, _, 0, _, .cons h _, e => by simp at e; subst e; exact ⟨_, rfl, h⟩
  | _, _, i + 1, d, .cons _ t, e => by
    obtain ⟨u, h1, h2⟩ := Reps.get (i := i) (d := d) t (by simpa using e)
    exact ⟨u, by simpa using h1, h2⟩
theorem Reps.get' : ∀ {vs : List V} {ds : List D} {i : Nat} {v : V}, Reps K F vs ds → vs[i]? = some v → ∃ d, ds[i]? = some d ∧ Rep K F v d
  | _, _, _, _, .nil, e => by simp at e
  | _, _, 0, _, .cons h _, e => by simp at e; subst e; exact ⟨_, rfl, h⟩
  | _, _, i + 1, d, .cons _ t, e => by
    obtain ⟨u, h1, h2⟩ := Reps.get' (i := i) (v := d) t (by simpa using e)
    exact ⟨u, by simpa using h1, h2⟩
theorem Reps.set {v : V} {d : D} (h : Rep K F v d) : ∀ (i : Nat) {vs : List V} {ds : List D}, Reps K F vs ds → Reps K F (vs.set i v) (ds.set i d)
  | _, _, _, .nil => .nil
  | 0, _, _, .cons _ t => .cons h t
  | i + 1, _, _, .cons g t => .cons g (Reps.set h i t)
theorem Reps.eraseIdx : ∀ (i : Nat) {vs : List V} {ds : List D}, Reps K F vs ds → Reps K F (vs.eraseIdx i) (ds.eraseIdx i)
  | _, _, _, .nil => .nil
  | 0, _, _, .cons _ t => t
  | i + 1, _, _, .cons g t => .cons g (Reps.eraseIdx i t)
theorem Reps.reverse : ∀ {vs : List V} {ds : List D}, Reps K F vs ds → Reps K F vs.reverse ds.reverse
  | _, _, .nil => .nil
  | _, _, .cons h t => by
    rw [List.reverse_cons, List.reverse_cons]
    exact t.reverse.append (.cons h .nil)
theorem RepK.length : ∀ {vs : List (Key × V)} {ds : List (D × D)}, RepK K F vs ds → vs.length = ds.length
  | _, _, .nil => rfl
  | _, _, .cons _ t => congrArg (· + 1) t.length
theorem RepT.length : ∀ {vs : List (List Key × V)} {ds : List (D × D)}, RepT K F vs ds → vs.length = ds.length
  | _, _, .nil => rfl
  | _, _, .cons _ t => congrArg (· + 1) t.length
end

def isDic : HO → Bool
  | .dK _ => true
  | .dT _ => true
  | _ => false
/-- what is frozen stands in the heap -/
def Sub (F H : Hp) : Prop := ∀ a u, F a = some u → H a = some u ∨ (isDic u = true ∧ ∃ o, H a = some (.frz o u))
theorem Sub.rd {F H : Hp} (s : Sub F H) {a : Addr} {u : HO} (h : F a = some u) : Rd H a u := by
  rcases s a u h with h | ⟨_, o, h⟩
  · exact .inl h
  · exact .inr ⟨o, h⟩
theorem Sub.lst {F H : Hp} (s : Sub F H) {a : Addr} {vs : List V} (h : F a = some (.lst vs)) : H a = some (.lst vs) := by
  rcases s a _ h with h | ⟨z, _⟩
  · exact h
  · cases z
theorem Sub.tup {F H : Hp} (s : Sub F H) {a : Addr} {vs : List V} (h : F a = some (.tup vs)) : H a = some (.tup vs) := by
  rcases s a _ h with h | ⟨z, _⟩
  · exact h
  · cases z
theorem Sub.sqT {K : Fg} {F H : Hp} (s : Sub F H) {a : Addr} {vs : List V} (h : SqT K F a vs) : SqT K H a vs := by
  rcases h with (h | ⟨o, h⟩) | h
  · exact .inl (s.rd h)
  · rcases s a _ h with h | ⟨z, _⟩
    · exact .inl (.inr ⟨o, h⟩)
    · cases z
  · exact .inr h
theorem Sub.none {F H : Hp} (s : Sub F H) {a : Addr} (h : H a = none) : F a = none := by
  cases e : F a with
  | none => rfl
  | some u =>
    rcases s a u e with q | ⟨_, o, q⟩ <;> rw [h] at q <;> cases q
/-- what is said of a shared changing thing -/
abbrev MI := Hp → HO → Prop
abbrev Om := Addr → Option MI
structure Wd (F : Hp) (Ω : Om) (H : Hp) : Prop where
  sub : Sub F H
  om : ∀ a I, Ω a = some I → F a = none ∧ (∃ o, H a = some o ∧ I F o) ∧ ∀ F1 F2 o, Gr F1 F2 → I F1 o → I F2 o
  tp : ∀ a vs, H a = some (.tup vs) → F a = some (.tup vs)
structure Ext (F : Hp) (Ω : Om) (H F' : Hp) (Ω' : Om) (H' : Hp) : Prop where
  sub : Gr F F'
  new : ∀ a, H a ≠ none → F' a = F a
  keep : ∀ a o, H a = some o → Ω a = none → H' a = some o
  here : ∀ a, H a ≠ none → H' a ≠ none
  omg : ∀ a I, Ω a = some I → Ω' a = some I
  omn : ∀ a, H a ≠ none → Ω' a = Ω a
  wd : Wd F' Ω' H'
theorem Ext.refl {F : Hp} {Ω : Om} {H : Hp} (w : Wd F Ω H) : Ext F Ω H F Ω H := ⟨Gr.refl _, fun _ _ => rfl, fun _ _ h _ => h, fun _ h => h, fun _ _ h => h, fun _ _ => rfl, w⟩
theorem Ext.trans {F F1 F2 : Hp} {Ω Ω1 Ω2 : Om} {H H1 H2 : Hp} (a : Ext F Ω H F1 Ω1 H1) (b : Ext F1 Ω1 H1 F2 Ω2 H2) : Ext F Ω H F2 Ω2 H2 where
  sub := a.sub.trans b.sub
  new := fun c h => (b.new c (a.here c h)).trans (a.new c h)
  keep := fun c o h w => b.keep c o (a.keep c o h w) ((a.omn c (by rw [h]; simp)).trans w)
  here := fun c h => b.here c (a.here c h)
  omg := fun c I h => b.omg c I (a.omg c I h)
  omn := fun c h => (b.omn c (a.here c h)).trans (a.omn c h)
  wd := b.wd
theorem Ext.free {F F1 : Hp} {Ω Ω1 : Om} {H H1 : Hp} (a : Ext F Ω H F1 Ω1 H1) {c : Addr} (h : H1 c = none) : H c = none := by
  cases e : H c with
  | none => rfl
  | some u => exact absurd h (a.here c (by rw [e]; simp))
/-- a thing is laid anew, not frozen -/
theorem Ext.laid {F : Hp} {Ω : Om} {H : Hp} (w : Wd F Ω H) {p : Addr} {o : HO} (h : H p = none) (ht : ∀ vs, o ≠ .tup vs := by intro _ z; cases z) : Ext F Ω H F Ω (upd H p o) where
  sub := Gr.refl _
  new := fun _ _ => rfl
  keep := fun a u e _ => by rw [upd_ne (ne_of_none e h)]; exact e
  here := fun a e => by
    by_cases z : a = p
    · rw [z, upd_same]; simp
    · rw [upd_ne z]; exact e
  omg := fun _ _ h => h
  omn := fun _ _ => rfl
  wd := ⟨fun a u e => by
      have z : a ≠ p := fun z => by
        rw [z, w.sub.none h] at e
        cases e
      rw [upd_ne z]
      exact w.sub a u e, fun a I e => by
      obtain ⟨h1, ⟨u, hu, hi⟩, m⟩ := w.om a I e
      exact ⟨h1, ⟨u, by rw [upd_ne (ne_of_none hu h)]; exact hu, hi⟩, m⟩, fun a vs e => by
      by_cases z : a = p
      · rw [z, upd_same] at e; cases e; exact absurd rfl (ht vs)
      · rw [upd_ne z] at e; exact w.tp a vs e⟩
/-- .. and frozen -/
theorem Ext.laidF {F : Hp} {Ω : Om} {H : Hp} (w : Wd F Ω H) {p : Addr} {o : HO} (h : H p = none) : Ext F Ω H (upd F p o) Ω (upd H p o) where
  sub := fun a u e => by
    have z : a ≠ p := fun z => by
      rw [z, w.sub.none h] at e
      cases e
    rw [upd_ne z]
    exact e
  new := fun a e => upd_ne fun z => e (by rw [z]; exact h)
  keep := fun a u e _ => by rw [upd_ne (ne_of_none e h)]; exact e
  here := fun a e => by
    by_cases z : a = p
    · rw [z, upd_same]; simp
    · rw [upd_ne z]; exact e
  omg := fun _ _ h => h
  omn := fun _ _ => rfl
  wd := by
    have g : Gr F (upd F p o) := fun a u e => by
      have z : a ≠ p := fun z => by
        rw [z, w.sub.none h] at e
        cases e
      rw [upd_ne z]
      exact e
    refine ⟨fun a u e => ?_, fun a I e => ?_, fun a vs e => ?_⟩
    · by_cases z : a = p
      · rw [z, upd_same] at e
        rw [z, upd_same]
        exact .inl e
      · rw [upd_ne z] at e
        rw [upd_ne z]
        exact w.sub a u e
    · obtain ⟨h1, ⟨u, hu, hi⟩, m⟩ := w.om a I e
      have z := ne_of_none hu h
      exact ⟨by rw [upd_ne z]; exact h1, ⟨u, by rw [upd_ne z]; exact hu, m _ _ _ g hi⟩, m⟩
    · by_cases z : a = p
      · rw [z, upd_same] at e ⊢; exact e
      · rw [upd_ne z] at e ⊢; exact w.tp a vs e

/-- what a slot holds -/
inductive C where
  | un
  | sh (d : D)
  | ol (ds : List D)
  | oll (dss : List (List D))
  | od (kvs : List (Key × D))
  | odT (kvs : List (List Key × D))
  | mo (I : MI)
/-- lists of one's own at the addresses as -/
inductive RLL (K : Fg) (F H : Hp) : List V → List (List D) → List Addr → Prop
  | nil : RLL K F H [] [] []
  | cons {a : Addr} {vs us : List V} {ds : List D} {dss : List (List D)} {as : List Addr} : H a = some (.lst vs) → Reps K F vs ds → RLL K F H us dss as → RLL K F H (.ref a :: us) (ds :: dss) (a :: as)
inductive RKV (K : Fg) (F : Hp) {κ : Type} : List (κ × V) → List (κ × D) → Prop
  | nil : RKV K F [] []
  | cons {k : κ} {v : V} {kvs : List (κ × V)} {d : D} {ds : List (κ × D)} : Rep K F v d → RKV K F kvs ds → RKV K F ((k, v) :: kvs) ((k, d) :: ds)
def RC (K : Fg) (F : Hp) (Ω : Om) (H : Hp) : C → V → List Addr → Prop
  | .un, _, A => A = []
  | .sh d, v, A => Rep K F v d ∧ A = []
  | .ol ds, v, A => ∃ a vs, v = .ref a ∧ A = [a] ∧ H a = some (.lst vs) ∧ Reps K F vs ds
  | .oll dss, v, A => ∃ a vs as, v = .ref a ∧ A = a :: as ∧ H a = some (.lst vs) ∧ RLL K F H vs dss as ∧ (a :: as).Nodup
  | .od kvs, v, A => ∃ a ks, v = .ref a ∧ A = [a] ∧ H a = some (.dK ks) ∧ RKV K F ks kvs
  | .odT kvs, v, A => ∃ a ks, v = .ref a ∧ A = [a] ∧ H a = some (.dT ks) ∧ RKV K F ks kvs
  | .mo I, v, A => ∃ a, v = .ref a ∧ Ω a = some I ∧ A = []
theorem RLL.go {K : Fg} {F F' H H' : Hp} (g : Gr F F') : ∀ {vs : List V} {dss : List (List D)} {as : List Addr}, (∀ a ∈ as, ∀ o, H a = some o → H' a = some o) → RLL K F H vs dss as → RLL K F' H' vs dss as
  | _, _, _, _, .nil => .nil
  | _, _, _, h, .cons e r t => .cons (h _ List.mem_cons_self _ e) (r.gr g) (t.go g fun a m => h a (List.mem_cons_of_mem _ m))
theorem RKV.gr {K : Fg} {F F' : Hp} (g : Gr F F') {κ : Type} : ∀ {vs : List (κ × V)} {ds : List (κ × D)}, RKV K F vs ds → RKV K F' vs ds
  | _, _, .nil => .nil
  | _, _, .cons h t => .cons (h.gr g) (t.gr g)
theorem RC.go {K : Fg} {F F' : Hp} {Ω Ω' : Om} {H H' : Hp} {c : C} {v : V} {A : List Addr} (g : Gr F F') (h : ∀ a ∈ A, ∀ o, H a = some o → H' a = some o) (ho : ∀ a I, Ω a = some I → Ω' a = some I) (r : RC K F Ω H c v A) : RC K F' Ω' H' c v A := by
  cases c with
  | un => exact r
  | sh d => exact ⟨r.1.gr g, r.2⟩
  | ol ds =>
    obtain ⟨a, vs, rfl, rfl, e, q⟩ := r
    exact ⟨a, vs, rfl, rfl, h a List.mem_cons_self _ e, q.gr g⟩
  | oll dss =>
    obtain ⟨a, vs, as, rfl, rfl, e, q, nd⟩ := r
    exact ⟨a, vs, as, rfl, rfl, h a List.mem_cons_self _ e, q.go g fun b m => h b (List.mem_cons_of_mem _ m), nd⟩
  | od kvs =>
    obtain ⟨a, vs, rfl, rfl, e, q⟩ := r
    exact ⟨a, vs, rfl, rfl, h a List.mem_cons_self _ e, q.gr g⟩
  | odT kvs =>
    obtain ⟨a, vs, rfl, rfl, e, q⟩ := r
    exact ⟨a, vs, rfl, rfl, h a List.mem_cons_self _ e, q.gr g⟩
  | mo I =>
    obtain ⟨a, rfl, e, rfl⟩ := r
    exact ⟨a, rfl, ho a I e, rfl⟩
/-- owned: neither frozen nor shared -/
def Ow (F : Hp) (Ω : Om) (A : List Addr) : Prop := ∀ a ∈ A, F a = none ∧ Ω a = none
theorem RC.there {K : Fg} {F : Hp} {Ω : Om} {H : Hp} {c : C} {v : V} {A : List Addr} (r : RC K F Ω H c v A) : ∀ a ∈ A, H a ≠ none := by
  cases c with
  | un => intro a m; rw [show A = [] from r] at m; cases m
  | sh d => intro a m; rw [r.2] at m; cases m
  | ol ds =>
    obtain ⟨a, vs, rfl, rfl, e, q⟩ := r
    intro b m; rw [List.mem_singleton.mp m, e]; simp
  | oll dss =>
    obtain ⟨a, vs, as, rfl, rfl, e, q, nd⟩ := r
    have key : ∀ {vs : List V} {dss : List (List D)} {as : List Addr}, RLL K F H vs dss as → ∀ b ∈ as, H b ≠ none := by
      intro vs dss as q
      induction q with
      | nil => intro b m; cases m
      | cons e _ _ ih =>
        intro b m
        rcases List.mem_cons.mp m with rfl | m
        · rw [e]; simp
        · exact ih b m
    intro b m
    rcases List.mem_cons.mp m with rfl | m
    · rw [e]; simp
    · exact key q b m
  | od kvs =>
    obtain ⟨a, vs, rfl, rfl, e, q⟩ := r
    intro b m; rw [List.mem_singleton.mp m, e]; simp
  | odT kvs =>
    obtain ⟨a, vs, rfl, rfl, e, q⟩ := r
    intro b m; rw [List.mem_singleton.mp m, e]; simp
  | mo I =>
    obtain ⟨a, rfl, e, rfl⟩ := r
    intro b m; cases m
theorem RC.ext {K : Fg} {F F' : Hp} {Ω Ω' : Om} {H H' : Hp} {c : C} {v : V} {A : List Addr} (x : Ext F Ω H F' Ω' H') (o : Ow F Ω A) (r : RC K F Ω H c v A) : RC K F' Ω' H' c v A :=
  r.go x.sub (fun a m u e => x.keep a u e (o a m).2) x.omg
theorem Ow.ext {F F' : Hp} {Ω Ω' : Om} {H H' : Hp} {A : List Addr} (x : Ext F Ω H F' Ω' H') (o : Ow F Ω A) (h : ∀ a ∈ A, H a ≠ none) : Ow F' Ω' A := fun a m =>
  ⟨(x.new a (h a m)).trans (o a m).1, (x.omn a (h a m)).trans (o a m).2⟩

/-- the state at a def's entry -/
structure Bs where
  F : Hp
  Ω : Om
  H : Hp
structure En (K : Fg) (B : Bs) (F : Hp) (Ω : Om) (H : Hp) (σ : L2.St) (ρ : List C) : Prop where
  ex : Ext B.F B.Ω B.H F Ω H
  len : ρ.length = σ.length
  own : ∃ As : Nat → List Addr, (∀ i c, ρ[i]? = some c → c ≠ .un → ∃ v, σ[i]? = some (some v) ∧ RC K F Ω H c v (As i)) ∧
    (∀ i, ∀ a ∈ As i, F a = none ∧ Ω a = none ∧ H a ≠ none ∧ B.H a = none) ∧ ∀ i j, i ≠ j → ∀ a ∈ As i, a ∉ As j
theorem En.ext {K : Fg} {B : Bs} {F F' : Hp} {Ω Ω' : Om} {H H' : Hp} {σ : L2.St} {ρ : List C} (e : En K B F Ω H σ ρ) (x : Ext F Ω H F' Ω' H') : En K B F' Ω' H' σ ρ := by
  obtain ⟨As, h1, h2, h3⟩ := e.own
  refine ⟨e.ex.trans x, e.len, As, fun i c hc hn => ?_, fun i a m => ?_, h3⟩
  · obtain ⟨v, hv, r⟩ := h1 i c hc hn
    exact ⟨v, hv, r.ext x fun a m => ⟨(h2 i a m).1, (h2 i a m).2.1⟩⟩
  · obtain ⟨a1, a2, a3, a4⟩ := h2 i a m
    exact ⟨(x.new a a3).trans a1, (x.omn a a3).trans a2, x.here a a3, a4⟩
theorem En.wd {K : Fg} {B : Bs} {F : Hp} {Ω : Om} {H : Hp} {σ : L2.St} {ρ : List C} (e : En K B F Ω H σ ρ) : Wd F Ω H := e.ex.wd
end TL
namespace TL
open PySem PySem.Spec PyProof.Rows L2
/-! ### judgements over contents -/
abbrev CK := C → Prop
abbrev TC := List C → CK → Prop
abbrev TD := List C → (D → Prop) → Prop
abbrev TB := List C → (Bool → Prop) → Prop
abbrev TL := List C → (List C → Prop) → Prop
theorem pe_imp {X : Cx} {e : Expr} {t t' : TE} (h : PE X e t) (f : ∀ σ H Q, t' σ H Q → t σ H Q) : PE X e t' := ⟨fun pins s σ H Q I w => h.run pins s σ H Q I (f σ H Q w)⟩
theorem pt_imp {X : Cx} {e : Expr} {t t' : TT} (h : PT X e t) (f : ∀ σ H Q, t' σ H Q → t σ H Q) : PT X e t' := ⟨fun pins s σ H Q I w => h.run pins s σ H Q I (f σ H Q w)⟩
theorem pw_imp {X : Cx} {e : Expr} {t t' : TT} (h : PW X e t) (f : ∀ σ H Q, t' σ H Q → t σ H Q) : PW X e t' := ⟨fun wh pins s σ H Q I w => h.run wh pins s σ H Q I (f σ H Q w)⟩
theorem pa_imp {X : Cx} {e : List Expr} {t t' : TA} (h : PA X e t) (f : ∀ σ H Q, t' σ H Q → t σ H Q) : PA X e t' := ⟨fun p pins s σ H Q I w => h.run p pins s σ H Q I (f σ H Q w)⟩
theorem ps_imp {X : Cx} {e : Stmt} {t t' : TS} (h : PS X e t) (f : ∀ D σ H, t' D σ H → t D σ H) : PS X e t' := ⟨fun pins s σ H D I w => h.run pins s σ H D I (f D σ H w)⟩
theorem pss_imp {X : Cx} {e : List Stmt} {t t' : TS} (h : PSs X e t) (f : ∀ D σ H, t' D σ H → t D σ H) : PSs X e t' := ⟨fun pins s σ H D I w => h.run pins s σ H D I (f D σ H w)⟩
/-- the end of an evaluation: the content c, made here or frozen -/
def Fin (K : Fg) (F : Hp) (Ω : Om) (H : Hp) (G : CK) (Q : VK) : Prop := ∀ c v F' Ω' H' A, Ext F Ω H F' Ω' H' → RC K F' Ω' H' c v A → Ow F' Ω' A → (∀ a ∈ A, H a = none) → G c → Q v H'
/-- .. or lent -/
def FinS (K : Fg) (F : Hp) (Ω : Om) (H : Hp) (G : CK) (Q : VK) : Prop := ∀ c v F' Ω' H' A, Ext F Ω H F' Ω' H' → RC K F' Ω' H' c v A → Ow F' Ω' A → G c → Q v H'
def FinB (F : Hp) (Ω : Om) (H : Hp) (G : Bool → Prop) (Q : Bool → Hp → Prop) : Prop := ∀ b F' Ω' H', Ext F Ω H F' Ω' H' → G b → Q b H'
def upC (K : Fg) (B : Bs) (te : TC) : TE := fun σ H Q => ∃ F Ω ρ G, En K B F Ω H σ ρ ∧ te ρ G ∧ Fin K F Ω H G Q
def upS (K : Fg) (B : Bs) (te : TC) : TE := fun σ H Q => ∃ F Ω ρ G, En K B F Ω H σ ρ ∧ te ρ G ∧ FinS K F Ω H G Q
def upB (K : Fg) (B : Bs) (tb : TB) : TT := fun σ H Q => ∃ F Ω ρ G, En K B F Ω H σ ρ ∧ tb ρ G ∧ FinB F Ω H G Q
structure VC (X : Cx) (e : Expr) (te : TC) : Prop where
  pe : ∀ B, PE X e (upC X.K B te)
structure SE (X : Cx) (e : Expr) (te : TC) : Prop where
  pe : ∀ B, PE X e (upS X.K B te)
structure VB (X : Cx) (e : Expr) (tb : TB) : Prop where
  pt : ∀ B, PT X e (upB X.K B tb)
structure WB (X : Cx) (e : Expr) (tb : TB) : Prop where
  pw : ∀ B, PW X e (upB X.K B tb)
theorem WB.vb {X : Cx} {e : Expr} {tb : TB} (h : WB X e tb) : VB X e tb := ⟨fun B => (h.pw B).pt⟩
section
variable {K : Fg} {F F1 F2 : Hp} {Ω Ω1 Ω2 : Om} {H H1 H2 : Hp} {G : CK} {Q : VK}
theorem FinS.fin (h : FinS K F Ω H G Q) : Fin K F Ω H G Q := fun c v F' Ω' H' A x r o _ g => h c v F' Ω' H' A x r o g
theorem Fin.ext (h : Fin K F Ω H G Q) (x : Ext F Ω H F1 Ω1 H1) : Fin K F1 Ω1 H1 G Q := fun c v F' Ω' H' A x' r o f g => h c v F' Ω' H' A (x.trans x') r o (fun a m => x.free (f a m)) g
theorem FinS.ext (h : FinS K F Ω H G Q) (x : Ext F Ω H F1 Ω1 H1) : FinS K F1 Ω1 H1 G Q := fun c v F' Ω' H' A x' r o g => h c v F' Ω' H' A (x.trans x') r o g
theorem FinB.ext {G : Bool → Prop} {Q : Bool → Hp → Prop} (h : FinB F Ω H G Q) (x : Ext F Ω H F1 Ω1 H1) : FinB F1 Ω1 H1 G Q := fun b F' Ω' H' x' g => h b F' Ω' H' (x.trans x') g
theorem ow_nil : Ow F Ω [] := fun _ m => nomatch m
/-- a frozen value at the end -/
theorem Fin.sh (h : Fin K F Ω H G Q) (x : Ext F Ω H F1 Ω1 H1) {v : V} {d : D} (r : Rep K F1 v d) (g : G (.sh d)) : Q v H1 := h (.sh d) v F1 Ω1 H1 [] x ⟨r, rfl⟩ ow_nil (fun _ m => nomatch m) g
theorem FinS.sh (h : FinS K F Ω H G Q) (x : Ext F Ω H F1 Ω1 H1) {v : V} {d : D} (r : Rep K F1 v d) (g : G (.sh d)) : Q v H1 := h (.sh d) v F1 Ω1 H1 [] x ⟨r, rfl⟩ ow_nil g
/-- a new list at the end -/
theorem Fin.ol (h : Fin K F Ω H G Q) (w : Wd F Ω H) {p : Addr} (n : H p = none) {vs : List V} {ds : List D} (r : Reps K F vs ds) (g : G (.ol ds)) : Q (.ref p) (upd H p (.lst vs)) :=
  h (.ol ds) _ F Ω _ [p] (Ext.laid w n) ⟨p, vs, rfl, rfl, upd_same, r⟩ (fun a m => by
    rw [List.mem_singleton.mp m]
    refine ⟨w.sub.none n, ?_⟩
    cases e : Ω p with
    | none => rfl
    | some I =>
      obtain ⟨_, ⟨o, ho, _⟩, _⟩ := w.om p I e
      rw [n] at ho
      cases ho) (fun a m => by rw [List.mem_singleton.mp m]; exact n) g
/-- a new tuple at the end -/
theorem Fin.tup (h : Fin K F Ω H G Q) (w : Wd F Ω H) {p : Addr} (n : H p = none) {vs : List V} {ds : List D} (r : Reps K F vs ds) (g : G (.sh (.tuple ds))) : Q (.ref p) (upd H p (.tup vs)) := by
  have x := Ext.laidF (o := .tup vs) w n
  exact h.sh x (.tup upd_same (r.gr x.sub)) g
theorem Wd.om_none (w : Wd F Ω H) {p : Addr} (n : H p = none) : Ω p = none := by
  cases e : Ω p with
  | none => rfl
  | some I =>
    obtain ⟨_, ⟨o, ho, _⟩, _⟩ := w.om p I e
    rw [n] at ho
    cases ho
end
section
variable {X : Cx} {a b e : Expr} {pos : Pos}
theorem VC.se {te : TC} (h : VC X e te) : SE X e te := ⟨fun B => pe_imp (h.pe B) fun σ H Q ⟨F, Ω, ρ, G, en, g, k⟩ => ⟨F, Ω, ρ, G, en, g, k.fin⟩⟩
/-- what is handed on as data: a thing of one's own is frozen -/
def fz : C → (D → Prop) → Prop
  | .sh d, k => k d
  | .ol ds, k => k (.list ds)
  | .oll dss, k => k (.list (dss.map .list))
  | .od kvs, k => k (.dict (kvs.map fun p => (kD p.1, p.2)))
  | .odT kvs, k => kvs ≠ [] ∧ k (.dict (kvs.map fun p => (kTD p.1, p.2)))
  | _, _ => False
/-- freezing what is owned -/
theorem freeze {K : Fg} {F : Hp} {Ω : Om} {H : Hp} {c : C} {v : V} {A : List Addr} {k : D → Prop} (w : Wd F Ω H) (r : RC K F Ω H c v A) (o : Ow F Ω A) (h : fz c k) :
    ∃ F' d, Gr F F' ∧ Wd F' Ω H ∧ Rep K F' v d ∧ k d ∧ ∀ b, b ∉ A → F' b = F b := by
  have one : ∀ (a : Addr) (u : HO), H a = some u → F a = none → Ω a = none → Gr F (upd F a u) ∧ Wd (upd F a u) Ω H := by
    intro a u e f om
    have g : Gr F (upd F a u) := fun b z q => by rw [upd_ne (ne_of_none q f)]; exact q
    refine ⟨g, ⟨fun b z q => ?_, fun b I q => ?_, fun b vs q => g _ _ (w.tp b vs q)⟩⟩
    · by_cases hb : b = a
      · rw [hb, upd_same] at q
        cases q
        rw [hb]
        exact .inl e
      · rw [upd_ne hb] at q
        exact w.sub b z q
    · obtain ⟨h1, ⟨z, hz, hi⟩, m⟩ := w.om b I q
      have hb : b ≠ a := fun z => by rw [z, om] at q; cases q
      exact ⟨by rw [upd_ne hb]; exact h1, ⟨z, hz, m _ _ _ g hi⟩, m⟩
  have many : ∀ (vs : List V) (dss : List (List D)) (as : List Addr), RLL K F H vs dss as → Ow F Ω as → as.Nodup → ∃ F', Gr F F' ∧ Wd F' Ω H ∧ Reps K F' vs (dss.map .list) ∧ ∀ b, b ∉ as → F' b = F b := by
    intro vs dss as q
    induction q with
    | nil => intro _ _; exact ⟨F, Gr.refl _, w, .nil, fun _ _ => rfl⟩
    | cons e r t ih =>
      rename_i a0 vs0 us0 ds0 dss0 as0
      intro o nd
      have nd' := List.nodup_cons.mp nd
      obtain ⟨F1, g1, w1, r1, f1⟩ := ih (fun b m => o b (List.mem_cons_of_mem _ m)) nd'.2
      have fa : F1 a0 = none := (f1 a0 nd'.1).trans (o a0 List.mem_cons_self).1
      have g : Gr F1 (upd F1 a0 (.lst vs0)) := fun b z q => by rw [upd_ne (ne_of_none q fa)]; exact q
      refine ⟨upd F1 a0 (.lst vs0), g1.trans g, ⟨fun b z q => ?_, fun b I q => ?_, fun b vs q => g _ _ (w1.tp b vs q)⟩, .cons (.lst upd_same (r.gr (g1.trans g))) (r1.gr g), fun b hb => ?_⟩
      · by_cases hb : b = a0
        · rw [hb, upd_same] at q
          cases q
          rw [hb]
          exact .inl e
        · rw [upd_ne hb] at q
          exact w1.sub b z q
      · obtain ⟨h1, ⟨z, hz, hi⟩, m⟩ := w1.om b I q
        have hb : b ≠ a0 := fun z => by rw [z, (o a0 List.mem_cons_self).2] at q; cases q
        exact ⟨by rw [upd_ne hb]; exact h1, ⟨z, hz, m _ _ _ g hi⟩, m⟩
      · rw [List.mem_cons, not_or] at hb
        rw [upd_ne hb.1]
        exact f1 b hb.2
  have kv : ∀ {F0 : Hp} {ks : List (Key × V)} {kvs : List (Key × D)}, RKV K F0 ks kvs → RepK K F0 ks (kvs.map fun p => (kD p.1, p.2)) := by
    intro F0 ks kvs q
    induction q with
    | nil => exact .nil
    | cons h _ ih => exact .cons h ih
  have kt : ∀ {F0 : Hp} {ks : List (List Key × V)} {kvs : List (List Key × D)}, RKV K F0 ks kvs → RepT K F0 ks (kvs.map fun p => (kTD p.1, p.2)) := by
    intro F0 ks kvs q
    induction q with
    | nil => exact .nil
    | cons h _ ih => exact .cons h ih
  cases c with
  | un => exact h.elim
  | sh d => exact ⟨F, d, Gr.refl _, w, r.1, h, fun _ _ => rfl⟩
  | ol ds =>
    obtain ⟨a, vs, rfl, rfl, e, q⟩ := r
    obtain ⟨g, w'⟩ := one a _ e (o a List.mem_cons_self).1 (o a List.mem_cons_self).2
    exact ⟨_, _, g, w', .lst upd_same (q.gr g), h, fun b hb => upd_ne fun z => hb (by rw [z]; exact List.mem_cons_self)⟩
  | oll dss =>
    obtain ⟨a, vs, as, rfl, rfl, e, q, nd⟩ := r
    have nd' := List.nodup_cons.mp nd
    obtain ⟨F1, g1, w1, r1, f1⟩ := many vs dss as q (fun b m => o b (List.mem_cons_of_mem _ m)) nd'.2
    have fa : F1 a = none := (f1 a nd'.1).trans (o a List.mem_cons_self).1
    have g : Gr F1 (upd F1 a (.lst vs)) := fun b z q => by rw [upd_ne (ne_of_none q fa)]; exact q
    refine ⟨upd F1 a (.lst vs), _, g1.trans g, ⟨fun b z q => ?_, fun b I q => ?_, fun b vs q => g _ _ (w1.tp b vs q)⟩, .lst upd_same (r1.gr g), h, fun b hb => ?_⟩
    · by_cases hb : b = a
      · rw [hb, upd_same] at q
        cases q
        rw [hb]
        exact .inl e
      · rw [upd_ne hb] at q
        exact w1.sub b z q
    · obtain ⟨h1, ⟨z, hz, hi⟩, m⟩ := w1.om b I q
      have hb : b ≠ a := fun z => by rw [z, (o a List.mem_cons_self).2] at q; cases q
      exact ⟨by rw [upd_ne hb]; exact h1, ⟨z, hz, m _ _ _ g hi⟩, m⟩
    · rw [List.mem_cons, not_or] at hb
      rw [upd_ne hb.1]
      exact f1 b hb.2
  | od kvs =>
    obtain ⟨a, vs, rfl, rfl, e, q⟩ := r
    obtain ⟨g, w'⟩ := one a _ e (o a List.mem_cons_self).1 (o a List.mem_cons_self).2
    exact ⟨_, _, g, w', .dK upd_same (kv (q.gr g)), h, fun b hb => upd_ne fun z => hb (by rw [z]; exact List.mem_cons_self)⟩
  | odT kvs =>
    obtain ⟨hn, h⟩ := h
    obtain ⟨a, vs, rfl, rfl, e, q⟩ := r
    have hn' : vs ≠ [] := fun z => by subst z; cases q; exact hn rfl
    obtain ⟨g, w'⟩ := one a _ e (o a List.mem_cons_self).1 (o a List.mem_cons_self).2
    exact ⟨_, _, g, w', .dT upd_same hn' (kt (q.gr g)), h, fun b hb => upd_ne fun z => hb (by rw [z]; exact List.mem_cons_self)⟩
  | mo I => exact h.elim
/-- data: what a display, a call, a store is handed -/
structure VD (X : Cx) (e : Expr) (td : TD) : Prop where
  vc : VC X e fun ρ G => td ρ fun d => G (.sh d)
theorem VC.fin_frozen {K : Fg} {F : Hp} {Ω : Om} {H : Hp} {G : D → Prop} {Q : VK} (k : Fin K F Ω H (fun c => ∃ d, c = .sh d ∧ G d) Q) : Fin K F Ω H (fun c => fz c G) Q := by
  intro c v F' Ω' H' A x r o f g
  obtain ⟨F2, d, gr, w2, r2, hk, off⟩ := freeze x.wd r o g
  refine k (.sh d) v F2 Ω' H' [] ⟨x.sub.trans gr, fun b hb => ?_, x.keep, x.here, x.omg, x.omn, w2⟩ ⟨r2, rfl⟩ ow_nil (fun _ m => nomatch m) ⟨d, rfl, hk⟩
  rw [off b fun m => hb (f b m)]
  exact x.new b hb
theorem VC.vd {te : TC} (h : VC X e te) : VD X e fun ρ G => te ρ fun c => fz c G := by
  refine ⟨⟨fun B => pe_imp (h.pe B) fun σ H Q ⟨F, Ω, ρ, G, en, g, k⟩ => ⟨F, Ω, ρ, _, en, g, VC.fin_frozen fun c v F' Ω' H' A x r o f g => ?_⟩⟩⟩
  obtain ⟨d, rfl, g⟩ := g
  exact k (.sh d) v F' Ω' H' A x r o f g
/-! names -/
def nmS (i : Nat) : TC := fun ρ G => match ρ[i]? with
  | some .un => False
  | some c => G c
  | none => False
def nmC (i : Nat) : TC := fun ρ G => match ρ[i]? with
  | some (.sh d) => G (.sh d)
  | some (.mo I) => G (.mo I)
  | _ => False
theorem se_var {i : Nat} (h : PE X e (tVar i)) : SE X e (nmS i) := by
  refine ⟨fun B => pe_imp h fun σ H Q ⟨F, Ω, ρ, G, en, g, k⟩ => ?_⟩
  obtain ⟨As, h1, h2, h3⟩ := en.own
  cases hc : ρ[i]? with
  | none => unfold nmS at g; rw [hc] at g; exact g.elim
  | some c =>
    have g' : c ≠ .un ∧ G c := by
      unfold nmS at g
      rw [hc] at g
      cases c with
      | un => exact g.elim
      | _ => exact ⟨by simp, g⟩
    obtain ⟨v, hv, r⟩ := h1 i c hc g'.1
    exact ⟨v, hv, k c v F Ω H (As i) (Ext.refl en.wd) r (fun a m => ⟨(h2 i a m).1, (h2 i a m).2.1⟩) g'.2⟩
theorem vc_var {i : Nat} (h : PE X e (tVar i)) : VC X e (nmC i) := by
  refine ⟨fun B => pe_imp h fun σ H Q ⟨F, Ω, ρ, G, en, g, k⟩ => ?_⟩
  obtain ⟨As, h1, h2, h3⟩ := en.own
  cases hc : ρ[i]? with
  | none => unfold nmC at g; rw [hc] at g; exact g.elim
  | some c =>
    unfold nmC at g
    rw [hc] at g
    cases c with
    | sh d =>
      obtain ⟨v, hv, r⟩ := h1 i _ hc (by simp)
      exact ⟨v, hv, k (.sh d) v F Ω H [] (Ext.refl en.wd) ⟨r.1, rfl⟩ ow_nil (fun _ m => nomatch m) g⟩
    | mo I =>
      obtain ⟨v, hv, a, rfl, ha, hA⟩ := h1 i _ hc (by simp)
      exact ⟨.ref a, hv, k (.mo I) (.ref a) F Ω H [] (Ext.refl en.wd) ⟨a, rfl, ha, rfl⟩ ow_nil (fun _ m => nomatch m) g⟩
    | _ => exact g.elim
end
end TL
namespace TL
open PySem PySem.Spec PyProof.Rows L2
section
variable {X : Cx} {a b e e1 e2 : Expr} {es : List Expr} {pos : Pos} {K : Fg}
/-! ### constants -/
def kC (d : D) : TC := fun _ G => G (.sh d)
theorem vc_const {e : Expr} {v : V} {d : D} (h : PE X e (tC v)) (r : ∀ F, Rep X.K F v d) : VC X e (kC d) := ⟨fun B => pe_imp h fun σ H Q ⟨F, Ω, ρ, G, en, g, k⟩ => k.sh (Ext.refl en.wd) (r F) g⟩
theorem vc_int {i j pos} : VC X (.Constant (.int i) j pos) (kC (.int i)) := vc_const pe_int fun _ => .int i
theorem vc_bl {i j pos} : VC X (.Constant (.bool i) j pos) (kC (.bool i)) := vc_const pe_bl fun _ => .bl i
theorem vc_non {j pos} : VC X (.Constant .none j pos) (kC .none) := vc_const pe_non fun _ => .non
theorem vc_str {x j pos} : VC X (.Constant (.str x) j pos) (kC (.str x)) := vc_const pe_str fun _ => .str x

/-! ### what two lent contents give -/
def OkBin (K : Fg) (r : R2) (R : C → C → CK → Prop) : Prop := ∀ F Ω H c1 c2 v1 v2 A1 A2 G Q, Wd F Ω H → RC K F Ω H c1 v1 A1 → RC K F Ω H c2 v2 A2 → R c1 c2 G → Fin K F Ω H G Q → r v1 v2 H Q
def OkUn (K : Fg) (r : V → Hp → VK → Prop) (R : C → CK → Prop) : Prop := ∀ F Ω H c1 v1 A1 G Q, Wd F Ω H → RC K F Ω H c1 v1 A1 → R c1 G → Fin K F Ω H G Q → r v1 H Q
def cBin (R : C → C → CK → Prop) (ta tb : TC) : TC := fun ρ G => ta ρ fun x => tb ρ fun y => R x y G
def cUn (R : C → CK → Prop) (ta : TC) : TC := fun ρ G => ta ρ fun x => R x G
theorem up_bin {B : Bs} {ta tb : TC} {r : R2} {R : C → C → CK → Prop} (ok : OkBin K r R) {σ : L2.St} {H : Hp} {Q : VK} (h : upC K B (cBin R ta tb) σ H Q) : tOp r (upS K B ta) (upS K B tb) σ H Q := by
  obtain ⟨F, Ω, ρ, G, en, g, k⟩ := h
  refine ⟨F, Ω, ρ, _, en, g, fun c1 v1 F1 Ω1 H1 A1 x1 r1 o1 g1 => ?_⟩
  refine ⟨F1, Ω1, ρ, _, en.ext x1, g1, fun c2 v2 F2 Ω2 H2 A2 x2 r2 o2 g2 => ?_⟩
  exact ok F2 Ω2 H2 c1 c2 v1 v2 A1 A2 G Q x2.wd (r1.ext x2 o1) r2 g2 (k.ext (x1.trans x2))
theorem up_un {B : Bs} {ta : TC} {r : V → Hp → VK → Prop} {R : C → CK → Prop} (ok : OkUn K r R) {σ : L2.St} {H : Hp} {Q : VK} (h : upC K B (cUn R ta) σ H Q) : tUn r (upS K B ta) σ H Q := by
  obtain ⟨F, Ω, ρ, G, en, g, k⟩ := h
  exact ⟨F, Ω, ρ, _, en, g, fun c1 v1 F1 Ω1 H1 A1 x1 r1 o1 g1 => ok F1 Ω1 H1 c1 v1 A1 G Q x1.wd r1 g1 (k.ext x1)⟩
theorem vc_op {op : Operator} {r : R2} {R : C → C → CK → Prop} (ho : OpR X (binaryOp op) r) (ok : OkBin X.K r R) {ta tb : TC} (ha : SE X a ta) (hb : SE X b tb) : VC X (.BinOp a op b pos) (cBin R ta tb) :=
  ⟨fun B => pe_imp (pe_op ho (ha.pe B) (hb.pe B)) fun σ H Q => up_bin ok⟩
theorem vc_un {op : UnaryOp} {r : V → Hp → VK → Prop} {R : C → CK → Prop} (ho : UnR X (unaryOp op) r) (ok : OkUn X.K r R) {ta : TC} (ha : SE X a ta) : VC X (.UnaryOp op a pos) (cUn R ta) :=
  ⟨fun B => pe_imp (pe_un ho (ha.pe B)) fun σ H Q => up_un ok⟩
theorem vc_cmp {op : CmpOp} {r : R2} {R : C → C → CK → Prop} (ho : OpR X (compareOp op) r) (ok : OkBin X.K r R) {ta tb : TC} (ha : SE X a ta) (hb : SE X b tb) (hm : behindInMarks op b = false := by rfl) : VC X (.Compare a [op] [b] pos) (cBin R ta tb) :=
  ⟨fun B => pe_imp (pe_cmpR ho (ha.pe B) (hb.pe B) hm) fun σ H Q => up_bin ok⟩
/-- truth of a content that is a bool -/
def blC (c : C) (G : Bool → Prop) : Prop := match c with
  | .sh (.bool b) => G b
  | _ => False
theorem vb_cmp {op : CmpOp} {r : R2} {R : C → C → CK → Prop} (ho : OpR X (compareOp op) r) (ok : OkBin X.K r R) {ta tb : TC} (ha : SE X a ta) (hb : SE X b tb) (hm : behindInMarks op b = false := by rfl) :
    VB X (.Compare a [op] [b] pos) (fun ρ G => cBin R ta tb ρ fun c => blC c G) := by
  refine ⟨fun B => pt_imp (pt_cmpR ho (ha.pe B) (hb.pe B) hm) fun σ H Q ⟨F, Ω, ρ, G, en, g, k⟩ => up_bin ok ⟨F, Ω, ρ, _, en, g, fun c v F' Ω' H' A x r o f gc => ?_⟩⟩
  cases c with
  | sh d =>
    cases d with
    | bool b =>
      obtain ⟨r, _⟩ := r
      cases r
      exact ⟨b, rfl, k b F' Ω' H' x gc⟩
    | _ => exact gc.elim
  | _ => exact gc.elim
/-- .. by another rule for the comparison -/
theorem pc_imp {op : CmpOp} {t t' : TE} (h : PC X op a b t) (f : ∀ σ H Q, t' σ H Q → t σ H Q) : PC X op a b t' := ⟨fun pins s σ H Q I w => h.run pins s σ H Q I (f σ H Q w)⟩
theorem vb_pc {op : CmpOp} {te : TC} (h : ∀ B, PC X op a b (upC X.K B te)) (hm : behindInMarks op b = false := by rfl) : VB X (.Compare a [op] [b] pos) (fun ρ G => te ρ fun c => blC c G) := by
  refine ⟨fun B => pt_imp (pt_cmp (h B) hm) fun σ H Q ⟨F, Ω, ρ, G, en, g, k⟩ => ⟨F, Ω, ρ, _, en, g, fun c v F' Ω' H' A x r o f gc => ?_⟩⟩
  cases c with
  | sh d =>
    cases d with
    | bool b =>
      obtain ⟨r, _⟩ := r
      cases r
      exact ⟨b, rfl, k b F' Ω' H' x gc⟩
    | _ => exact gc.elim
  | _ => exact gc.elim
theorem vc_pc {op : CmpOp} {te : TC} (h : ∀ B, PC X op a b (upC X.K B te)) (hm : behindInMarks op b = false := by rfl) : VC X (.Compare a [op] [b] pos) te := ⟨fun B => pe_cmp (h B) hm⟩

/-! ### ints -/
def cI2 (f : Int → Int → CK → Prop) : C → C → CK → Prop
  | .sh (.int i), .sh (.int j), G => f i j G
  | _, _, _ => False
theorem ok_I2 {P : Int → Int → Prop} {g : Int → Int → V} {f : Int → Int → CK → Prop} {d : Int → Int → D} (hr : ∀ F i j, Rep K F (g i j) (d i j)) (hf : ∀ i j G, f i j G → P i j ∧ G (.sh (d i j))) : OkBin K (rI P g) (cI2 f) := by
  intro F Ω H c1 c2 v1 v2 A1 A2 G Q w r1 r2 h k
  unfold cI2 at h
  split at h
  · rename_i i j
    obtain ⟨r1, _⟩ := r1
    obtain ⟨r2, _⟩ := r2
    cases r1
    cases r2
    obtain ⟨p, q⟩ := hf i j _ h
    exact ⟨i, j, rfl, rfl, p, k.sh (Ext.refl w) (hr F i j) q⟩
  · exact h.elim
theorem ok_I20 {g : Int → Int → V} {f : Int → Int → CK → Prop} {d : Int → Int → D} (hr : ∀ F i j, Rep K F (g i j) (d i j)) (hf : ∀ i j G, f i j G → G (.sh (d i j))) : OkBin K (rI0 g) (cI2 f) := by
  intro F Ω H c1 c2 v1 v2 A1 A2 G Q w r1 r2 h k
  unfold cI2 at h
  split at h
  · rename_i i j
    obtain ⟨r1, _⟩ := r1
    obtain ⟨r2, _⟩ := r2
    cases r1
    cases r2
    exact ⟨i, j, rfl, rfl, k.sh (Ext.refl w) (hr F i j) (hf i j _ h)⟩
  · exact h.elim
abbrev cSub := cI2 fun i j G => G (.sh (.int (i - j)))
abbrev cMul := cI2 fun i j G => CMul i j ∧ G (.sh (.int (i * j)))
abbrev cDiv := cI2 fun i j G => CDivN i j ∧ G (.sh (.int (i.fdiv j)))
abbrev cMod := cI2 fun i j G => j ≠ 0 ∧ G (.sh (.int (i.fmod j)))
abbrev cPow := cI2 fun i j G => CPow i j ∧ G (.sh (.int (i ^ j.toNat)))
abbrev cLt := cI2 fun i j G => G (.sh (.bool (decide (i < j))))
abbrev cLe := cI2 fun i j G => G (.sh (.bool (decide (i ≤ j))))
abbrev cGt := cI2 fun i j G => G (.sh (.bool (decide (j < i))))
abbrev cGe := cI2 fun i j G => G (.sh (.bool (decide (j ≤ i))))
theorem ok_sub : OkBin K (rI0 fun i j => .int (i - j)) cSub := ok_I20 (d := fun i j => .int (i - j)) (fun _ _ _ => .int _) fun _ _ _ h => h
theorem ok_mul : OkBin K (rI CMul fun i j => .int (i * j)) cMul := ok_I2 (d := fun i j => .int (i * j)) (fun _ _ _ => .int _) fun _ _ _ h => h
theorem ok_div : OkBin K (rI CDivN fun i j => .int (i.fdiv j)) cDiv := ok_I2 (d := fun i j => .int (i.fdiv j)) (fun _ _ _ => .int _) fun _ _ _ h => h
theorem ok_mod : OkBin K (rI (fun _ j => j ≠ 0) fun i j => .int (i.fmod j)) cMod := ok_I2 (d := fun i j => .int (i.fmod j)) (fun _ _ _ => .int _) fun _ _ _ h => h
theorem ok_pow : OkBin K (rI CPow fun i j => .int (i ^ j.toNat)) cPow := ok_I2 (d := fun i j => .int (i ^ j.toNat)) (fun _ _ _ => .int _) fun _ _ _ h => h
theorem ok_lt : OkBin K (rI0 fun i j => .bl (decide (i < j))) cLt := ok_I20 (d := fun i j => .bool (decide (i < j))) (fun _ _ _ => .bl _) fun _ _ _ h => h
theorem ok_le : OkBin K (rI0 fun i j => .bl (decide (i ≤ j))) cLe := ok_I20 (d := fun i j => .bool (decide (i ≤ j))) (fun _ _ _ => .bl _) fun _ _ _ h => h
theorem ok_gt : OkBin K (rI0 fun i j => .bl (decide (j < i))) cGt := ok_I20 (d := fun i j => .bool (decide (j < i))) (fun _ _ _ => .bl _) fun _ _ _ h => h
theorem ok_ge : OkBin K (rI0 fun i j => .bl (decide (j ≤ i))) cGe := ok_I20 (d := fun i j => .bool (decide (j ≤ i))) (fun _ _ _ => .bl _) fun _ _ _ h => h
theorem vc_sub {ta tb : TC} (ha : SE X a ta) (hb : SE X b tb) : VC X (.BinOp a .Sub b pos) (cBin cSub ta tb) := vc_op op_sub ok_sub ha hb
theorem vc_mul {ta tb : TC} (ha : SE X a ta) (hb : SE X b tb) : VC X (.BinOp a .Mult b pos) (cBin cMul ta tb) := vc_op op_mul ok_mul ha hb
theorem vc_div {ta tb : TC} (ha : SE X a ta) (hb : SE X b tb) : VC X (.BinOp a .FloorDiv b pos) (cBin cDiv ta tb) := vc_op op_fdivN ok_div ha hb
theorem vc_mod {ta tb : TC} (ha : SE X a ta) (hb : SE X b tb) : VC X (.BinOp a .Mod b pos) (cBin cMod ta tb) := vc_op op_modN ok_mod ha hb
theorem vc_pow {ta tb : TC} (ha : SE X a ta) (hb : SE X b tb) : VC X (.BinOp a .Pow b pos) (cBin cPow ta tb) := vc_op op_pow ok_pow ha hb
def cNeg : C → CK → Prop
  | .sh (.int i), G => G (.sh (.int (-i)))
  | _, _ => False
theorem vc_neg {ta : TC} (ha : SE X a ta) : VC X (.UnaryOp .USub a pos) (cUn cNeg ta) := vc_un un_neg (fun F Ω H c1 v1 A1 G Q w r1 h k => by
  unfold cNeg at h
  split at h
  · rename_i i
    obtain ⟨r1, _⟩ := r1
    cases r1
    exact ⟨i, rfl, k.sh (Ext.refl w) (.int _) h⟩
  · exact h.elim) ha
/-! ### plus -/
/-- a readable list of frozen items -/
def lsC : C → Option (List D)
  | .sh (.list ds) => some ds
  | .ol ds => some ds
  | _ => none
theorem lsC_get {F H : Hp} {Ω : Om} {c : C} {v : V} {A : List Addr} {ds : List D} (w : Wd F Ω H) (r : RC K F Ω H c v A) (h : lsC c = some ds) : ∃ a vs, v = .ref a ∧ H a = some (.lst vs) ∧ Reps K F vs ds := by
  cases c with
  | sh d =>
    cases d with
    | list es =>
      cases h
      obtain ⟨r, _⟩ := r
      cases r with
      | lst e q => exact ⟨_, _, rfl, w.sub.lst e, q⟩
    | _ => cases h
  | ol es =>
    cases h
    obtain ⟨a, vs, rfl, _, e, q⟩ := r
    exact ⟨a, vs, rfl, e, q⟩
  | _ => cases h
theorem tup_get {F H : Hp} {Ω : Om} {v : V} {A : List Addr} {ds : List D} (w : Wd F Ω H) (r : RC K F Ω H (.sh (.tuple ds)) v A) : ∃ a vs, v = .ref a ∧ F a = some (.tup vs) ∧ SqT K H a vs ∧ Reps K F vs ds := by
  obtain ⟨r, _⟩ := r
  cases r with
  | tup e q => exact ⟨_, _, rfl, e, w.sub.sqT (.inl (.inl e)), q⟩
def cAdd (x y : C) (G : CK) : Prop := match x, y with
  | .sh (.int i), .sh (.int j) => G (.sh (.int (i + j)))
  | .sh (.str i), .sh (.str j) => i.length + j.length ≤ sizeLine ∧ G (.sh (.str (i ++ j)))
  | .sh (.tuple xs), .sh (.tuple ys) => xs.length + ys.length ≤ sizeLine ∧ G (.sh (.tuple (xs ++ ys)))
  | .sh (.list xs), .sh (.list ys) => xs.length + ys.length ≤ sizeLine ∧ G (.ol (xs ++ ys))
  | .sh (.list xs), .ol ys => xs.length + ys.length ≤ sizeLine ∧ G (.ol (xs ++ ys))
  | .ol xs, .sh (.list ys) => xs.length + ys.length ≤ sizeLine ∧ G (.ol (xs ++ ys))
  | .ol xs, .ol ys => xs.length + ys.length ≤ sizeLine ∧ G (.ol (xs ++ ys))
  | _, _ => False
abbrev rAddA (K : Fg) : R2 := fun x y H Q => (rI0 (fun i j => .int (i + j)) x y H Q ∨ (fun x y H Q => ∃ i j, x = .str i ∧ y = .str j ∧ i.length + j.length ≤ sizeLine ∧ Q (.str (i ++ j)) H : R2) x y H Q) ∨ (rCatA K x y H Q ∨ rCat x y H Q)
theorem op_addA : OpR X (binaryOp .Add) (rAddA X.K) := OpR.or (OpR.or op_add op_add_str) (OpR.or op_catA op_cat)
theorem cAdd_ls {x y : C} {xs ys : List D} {G : CK} (hx : lsC x = some xs) (hy : lsC y = some ys) (h : cAdd x y G) : xs.length + ys.length ≤ sizeLine ∧ G (.ol (xs ++ ys)) := by
  cases x with
  | sh d =>
    cases d with
    | list es =>
      cases hx
      cases y with
      | sh d' =>
        cases d' with
        | list es' => cases hy; exact h
        | _ => cases hy
      | ol es' => cases hy; exact h
      | _ => cases hy
    | _ => cases hx
  | ol es =>
    cases hx
    cases y with
    | sh d' =>
      cases d' with
      | list es' => cases hy; exact h
      | _ => cases hy
    | ol es' => cases hy; exact h
    | _ => cases hy
  | _ => cases hx
theorem ok_add : OkBin K (rAddA K) cAdd := by
  intro F Ω H c1 c2 v1 v2 A1 A2 G Q w r1 r2 h k
  have lists : ∀ {xs ys : List D}, lsC c1 = some xs → lsC c2 = some ys → rAddA K v1 v2 H Q := by
    intro xs ys h1 h2
    obtain ⟨a, vs, rfl, ea, qa⟩ := lsC_get w r1 h1
    obtain ⟨b, us, rfl, eb, qb⟩ := lsC_get w r2 h2
    obtain ⟨hz, g⟩ := cAdd_ls h1 h2 h
    exact .inr (.inr ⟨a, b, vs, us, rfl, rfl, ea, eb, by rw [qa.length, qb.length]; exact hz, fun p n => k.ol w n (qa.append qb) g⟩)
  cases c1 with
  | sh d =>
    cases c2 with
    | sh d' =>
      cases d with
      | int i =>
        cases d' with
        | int j =>
          obtain ⟨r1, _⟩ := r1
          obtain ⟨r2, _⟩ := r2
          cases r1
          cases r2
          exact .inl (.inl ⟨i, j, rfl, rfl, k.sh (Ext.refl w) (.int _) h⟩)
        | _ => exact False.elim h
      | str i =>
        cases d' with
        | str j =>
          obtain ⟨r1, _⟩ := r1
          obtain ⟨r2, _⟩ := r2
          cases r1
          cases r2
          exact .inl (.inr ⟨i, j, rfl, rfl, h.1, k.sh (Ext.refl w) (.str _) h.2⟩)
        | _ => exact False.elim h
      | tuple xs =>
        cases d' with
        | tuple ys =>
          obtain ⟨a, vs, rfl, fa, ea, qa⟩ := tup_get w r1
          obtain ⟨b, us, rfl, fb, eb, qb⟩ := tup_get w r2
          have h' : xs.length + ys.length ≤ sizeLine ∧ G (.sh (.tuple (xs ++ ys))) := h
          refine .inr (.inl ⟨a, b, vs, us, rfl, rfl, ea, eb, by rw [qa.length, qb.length]; exact h'.1, fun z => ?_, fun _ z => ?_, fun _ _ p n => ?_⟩)
          · subst z
            cases qa
            exact k.sh (Ext.refl w) (.tup fb qb) h'.2
          · subst z
            cases qb
            rw [List.append_nil] at h'
            exact k.sh (Ext.refl w) (.tup fa qa) h'.2
          · exact k.tup w n (qa.append qb) h'.2
        | _ => exact False.elim h
      | list xs =>
        cases d' with
        | list ys => exact lists rfl rfl
        | _ => exact False.elim h
      | _ => exact False.elim h
    | ol ys =>
      cases d with
      | list xs => exact lists rfl rfl
      | _ => exact False.elim h
    | _ => cases d <;> exact False.elim h
  | ol xs =>
    cases c2 with
    | sh d' =>
      cases d' with
      | list ys => exact lists rfl rfl
      | _ => exact False.elim h
    | ol ys => exact lists rfl rfl
    | _ => exact False.elim h
  | _ => exact False.elim h
theorem vc_add {ta tb : TC} (ha : SE X a ta) (hb : SE X b tb) : VC X (.BinOp a .Add b pos) (cBin cAdd ta tb) := vc_op op_addA ok_add ha hb
end
end TL
namespace TL
open PySem PySem.Spec PyProof.Rows L2
/-! ### data as the layer below reads it -/
mutual
theorem Rep.dp {K : Fg} {F H : Hp} (s : Sub F H) : ∀ {v : V} {d : D}, Rep K F v d → d.canLay0 = true → Dp K H v d
  | _, _, .non, _ => .non
  | _, _, .bl b, _ => .bl b
  | _, _, .int i, _ => .int i
  | _, _, .str x, _ => .str x
  | _, _, .lst (ds := ds) e r, h => .lst (.inl (.inl (s.lst e))) (Reps.dp s r (by simpa only [PyData.canLay0] using h))
  | _, _, .tup (ds := ds) e r, h => .tup (s.sqT (.inl (.inl e))) (Reps.dp s r (by simpa only [PyData.canLay0] using h))
  | _, _, .dK _ _, h => by simp only [PyData.canLay0] at h; cases h
  | _, _, .dT _ _ _, h => by simp only [PyData.canLay0] at h; cases h
theorem Reps.dp {K : Fg} {F H : Hp} (s : Sub F H) : ∀ {vs : List V} {ds : List D}, Reps K F vs ds → PyData.canLayAll0 ds = true → DpAll K H vs ds
  | _, _, .nil, _ => .nil
  | _, _, .cons h t, q => by
    simp only [PyData.canLayAll0, Bool.and_eq_true] at q
    exact .cons (Rep.dp s h q.1) (Reps.dp s t q.2)
end
/-- lent data -/
def dC : C → Option D
  | .sh d => some d
  | .ol ds => some (.list ds)
  | _ => none
theorem dC_dp {K : Fg} {F H : Hp} {Ω : Om} {c : C} {v : V} {A : List Addr} {d : D} (w : Wd F Ω H) (r : RC K F Ω H c v A) (h : dC c = some d) (hs : d.canLay0 = true) : Dp K H v d := by
  cases c with
  | sh e => cases h; exact r.1.dp w.sub hs
  | ol es =>
    cases h
    obtain ⟨a, vs, rfl, _, e, q⟩ := r
    exact .lst (.inl (.inl e)) (q.dp w.sub (by simpa only [PyData.canLay0] using hs))
  | _ => cases h
section
variable {X : Cx} {a b e e1 e2 : Expr} {es : List Expr} {pos : Pos} {K : Fg}
/-! ### equality -/
def cEqB (f : Bool → Bool) (x y : C) (G : CK) : Prop := match x, y with
  | .sh (.int i), .sh (.int j) => G (.sh (.bool (f (decide (i = j)))))
  | .sh (.str i), .sh (.str j) => G (.sh (.bool (f (decide (i = j)))))
  | x, y => ∃ d e, dC x = some d ∧ dC y = some e ∧ SeqAt.shaped d = true ∧ SeqAt.shaped e = true ∧ G (.sh (.bool (f (PyData.eqv d e))))
abbrev cEq := cEqB id
abbrev cNe := cEqB not
abbrev rEqA (K : Fg) : R2 := fun x y H Q => rEq x y H Q ∨ rEqD K x y H Q
abbrev rNeA (K : Fg) : R2 := fun x y H Q => rNe x y H Q ∨ rNeD K x y H Q
theorem op_eqA (hu : X.A.units + 64 < cLine) : OpR X (compareOp .Eq) (rEqA X.K) := OpR.or op_eq (op_eqD hu)
theorem op_neA (hu : X.A.units + 64 < cLine) : OpR X (compareOp .NotEq) (rNeA X.K) := OpR.or op_ne (op_neD hu)
theorem cEqB_cases {f : Bool → Bool} {x y : C} {G : CK} (h : cEqB f x y G) : (∃ i j, x = .sh (.int i) ∧ y = .sh (.int j) ∧ G (.sh (.bool (f (decide (i = j)))))) ∨ (∃ i j, x = .sh (.str i) ∧ y = .sh (.str j) ∧ G (.sh (.bool (f (decide (i = j)))))) ∨
    ∃ d e, dC x = some d ∧ dC y = some e ∧ SeqAt.shaped d = true ∧ SeqAt.shaped e = true ∧ G (.sh (.bool (f (PyData.eqv d e)))) := by
  unfold cEqB at h
  split at h
  · exact .inl ⟨_, _, rfl, rfl, h⟩
  · exact .inr (.inl ⟨_, _, rfl, rfl, h⟩)
  · exact .inr (.inr h)
theorem ok_eq : OkBin K (rEqA K) cEq := by
  intro F Ω H c1 c2 v1 v2 A1 A2 G Q w r1 r2 h k
  rcases cEqB_cases h with ⟨i, j, rfl, rfl, g⟩ | ⟨i, j, rfl, rfl, g⟩ | ⟨d, e, hd, he, sd, se, g⟩
  · obtain ⟨r1, _⟩ := r1
    obtain ⟨r2, _⟩ := r2
    cases r1
    cases r2
    refine .inl ⟨rfl, k.sh (Ext.refl w) (.bl _) ?_⟩
    rw [show decide (V.int i = V.int j) = decide (i = j) by rw [dec_int, Bool.beq_eq_decide_eq]]
    exact g
  · obtain ⟨r1, _⟩ := r1
    obtain ⟨r2, _⟩ := r2
    cases r1
    cases r2
    refine .inl ⟨rfl, k.sh (Ext.refl w) (.bl _) ?_⟩
    rw [show decide (V.str i = V.str j) = decide (i = j) by by_cases z : i = j <;> simp [z]]
    exact g
  · exact .inr ⟨d, e, dC_dp w r1 hd (SeqAt.canLay_of_shaped sd), dC_dp w r2 he (SeqAt.canLay_of_shaped se), sd, se, k.sh (Ext.refl w) (.bl _) g⟩
theorem ok_ne : OkBin K (rNeA K) cNe := by
  intro F Ω H c1 c2 v1 v2 A1 A2 G Q w r1 r2 h k
  rcases cEqB_cases h with ⟨i, j, rfl, rfl, g⟩ | ⟨i, j, rfl, rfl, g⟩ | ⟨d, e, hd, he, sd, se, g⟩
  · obtain ⟨r1, _⟩ := r1
    obtain ⟨r2, _⟩ := r2
    cases r1
    cases r2
    refine .inl ⟨rfl, k.sh (Ext.refl w) (.bl _) ?_⟩
    rw [show decide (V.int i = V.int j) = decide (i = j) by rw [dec_int, Bool.beq_eq_decide_eq]]
    exact g
  · obtain ⟨r1, _⟩ := r1
    obtain ⟨r2, _⟩ := r2
    cases r1
    cases r2
    refine .inl ⟨rfl, k.sh (Ext.refl w) (.bl _) ?_⟩
    rw [show decide (V.str i = V.str j) = decide (i = j) by by_cases z : i = j <;> simp [z]]
    exact g
  · exact .inr ⟨d, e, dC_dp w r1 hd (SeqAt.canLay_of_shaped sd), dC_dp w r2 he (SeqAt.canLay_of_shaped se), sd, se, k.sh (Ext.refl w) (.bl _) g⟩
/-! ### in a list -/
def cInB (f : Bool → Bool) (x y : C) (G : CK) : Prop := ∃ d ds, dC x = some d ∧ lsC y = some ds ∧ SeqAt.shaped d = true ∧ SeqAt.shaped (.list ds) = true ∧ G (.sh (.bool (f (ds.any fun z => PyData.eqv z d))))
theorem lsC_dC {c : C} {ds : List D} (h : lsC c = some ds) : dC c = some (.list ds) := by
  cases c with
  | sh d =>
    cases d with
    | list es => cases h; rfl
    | _ => cases h
  | ol es => cases h; rfl
  | _ => cases h
theorem ok_in : OkBin K (rInD K) (cInB id) := by
  intro F Ω H c1 c2 v1 v2 A1 A2 G Q w r1 r2 ⟨d, ds, hd, he, sd, se, g⟩ k
  exact ⟨d, ds, dC_dp w r1 hd (SeqAt.canLay_of_shaped sd), dC_dp w r2 (lsC_dC he) (SeqAt.canLay_of_shaped se), sd, se, k.sh (Ext.refl w) (.bl _) g⟩
theorem ok_notIn : OkBin K (rNotInD K) (cInB not) := by
  intro F Ω H c1 c2 v1 v2 A1 A2 G Q w r1 r2 ⟨d, ds, hd, he, sd, se, g⟩ k
  exact ⟨d, ds, dC_dp w r1 hd (SeqAt.canLay_of_shaped sd), dC_dp w r2 (lsC_dC he) (SeqAt.canLay_of_shaped se), sd, se, k.sh (Ext.refl w) (.bl _) g⟩
/-! ### is None -/
def isNo : C → Bool
  | .sh .none => true
  | _ => false
def cIsB (f : Bool → Bool) (x y : C) (G : CK) : Prop := match y with
  | .sh .none => G (.sh (.bool (f (isNo x))))
  | _ => False
theorem isNo_v {F H : Hp} {Ω : Om} {c : C} {v : V} {A : List Addr} (r : RC K F Ω H c v A) (hu : c ≠ .un) : decide (v = .non) = isNo c := by
  cases c with
  | un => exact absurd rfl hu
  | sh d =>
    obtain ⟨r, _⟩ := r
    cases r <;> rfl
  | ol ds => obtain ⟨a, vs, rfl, _⟩ := r; rfl
  | oll ds => obtain ⟨a, vs, as, rfl, _⟩ := r; rfl
  | od ds => obtain ⟨a, vs, rfl, _⟩ := r; rfl
  | odT ds => obtain ⟨a, vs, rfl, _⟩ := r; rfl
  | mo I => obtain ⟨a, rfl, _⟩ := r; rfl
def cIs (f : Bool → Bool) (x y : C) (G : CK) : Prop := x ≠ .un ∧ cIsB f x y G
theorem ok_is : OkBin K (fun x y H Q => y = .non ∧ Q (.bl (decide (x = .non))) H) (cIs id) := by
  intro F Ω H c1 c2 v1 v2 A1 A2 G Q w r1 r2 ⟨hu, h⟩ k
  unfold cIsB at h
  split at h
  · obtain ⟨r2, _⟩ := r2
    cases r2
    exact ⟨rfl, k.sh (Ext.refl w) (.bl _) (by rw [isNo_v r1 hu]; exact h)⟩
  · exact h.elim
theorem ok_isnot : OkBin K (fun x y H Q => y = .non ∧ Q (.bl (!decide (x = .non))) H) (cIs not) := by
  intro F Ω H c1 c2 v1 v2 A1 A2 G Q w r1 r2 ⟨hu, h⟩ k
  unfold cIsB at h
  split at h
  · obtain ⟨r2, _⟩ := r2
    cases r2
    exact ⟨rfl, k.sh (Ext.refl w) (.bl _) (by rw [isNo_v r1 hu]; exact h)⟩
  · exact h.elim
/-! ### items -/
/-- xs[i] of data -/
def atD {α : Type} (xs : List α) (i : Int) (G : α → Prop) : Prop := ∃ x, atI xs i = some x ∧ G x
def cIx (x y : C) (G : CK) : Prop := match x, y with
  | .sh (.list ds), .sh (.int i) => atD ds i fun d => G (.sh d)
  | .ol ds, .sh (.int i) => atD ds i fun d => G (.sh d)
  | .sh (.tuple ds), .sh (.int i) => atD ds i fun d => G (.sh d)
  | .sh (.str z), .sh (.int i) => z.length ≤ sizeLine ∧ atD z.cps.toList i fun c => G (.sh (.str ⟨#[c]⟩))
  | _, _ => False
theorem atI_reps {F : Hp} {vs : List V} {ds : List D} {i : Int} {d : D} (r : Reps K F vs ds) (h : atI ds i = some d) : ∃ v, atI vs i = some v ∧ Rep K F v d := by
  unfold atI at h ⊢
  rw [r.length]
  cases e : ixN ds.length i with
  | none => rw [e] at h; cases h
  | some j =>
    rw [e] at h
    exact r.get h
theorem ok_ix : OkBin K (rIx K) cIx := by
  intro F Ω H c1 c2 v1 v2 A1 A2 G Q w r1 r2 h k
  unfold cIx at h
  split at h
  · rename_i ds i
    obtain ⟨d, hd, g⟩ := h
    obtain ⟨a, vs, rfl, ea, qa⟩ := lsC_get (ds := ds) w r1 rfl
    obtain ⟨r2, _⟩ := r2
    cases r2
    obtain ⟨v, hv, rv⟩ := atI_reps qa hd
    exact .inl ⟨a, vs, i, v, rfl, rfl, .inl (.inl ea), hv, k.sh (Ext.refl w) rv g⟩
  · rename_i ds i
    obtain ⟨d, hd, g⟩ := h
    obtain ⟨a, vs, rfl, ea, qa⟩ := lsC_get (ds := ds) w r1 rfl
    obtain ⟨r2, _⟩ := r2
    cases r2
    obtain ⟨v, hv, rv⟩ := atI_reps qa hd
    exact .inl ⟨a, vs, i, v, rfl, rfl, .inl (.inl ea), hv, k.sh (Ext.refl w) rv g⟩
  · rename_i ds i
    obtain ⟨d, hd, g⟩ := h
    obtain ⟨a, vs, rfl, fa, ea, qa⟩ := tup_get w r1
    obtain ⟨r2, _⟩ := r2
    cases r2
    obtain ⟨v, hv, rv⟩ := atI_reps qa hd
    exact .inr (.inl ⟨a, vs, i, v, rfl, rfl, ea, hv, k.sh (Ext.refl w) rv g⟩)
  · rename_i z i
    obtain ⟨hz, c, hc, g⟩ := h
    obtain ⟨r1, _⟩ := r1
    obtain ⟨r2, _⟩ := r2
    cases r1
    cases r2
    exact .inr (.inr ⟨z, i, c, rfl, rfl, hz, hc, k.sh (Ext.refl w) (.str _) g⟩)
  · exact h.elim
theorem vc_ix {ta tb : TC} (ha : SE X a ta) (hb : SE X b tb) (hs : PlainIx b := by exact fun _ _ => rfl) : VC X (.Subscript a b pos) (cBin cIx ta tb) :=
  ⟨fun B => pe_imp (pe_ix ix_seq (ha.pe B) (hb.pe B) hs) fun σ H Q => up_bin ok_ix⟩
/-! ### slices -/
abbrev TOp := List C → (Option Int → Prop) → Prop
def upO (K : Fg) (B : Bs) (t : TOp) : L2.TO := fun σ H Q => ∃ F Ω ρ G, En K B F Ω H σ ρ ∧ t ρ G ∧ ∀ o F' Ω' H', Ext F Ω H F' Ω' H' → G o → Q o H'
structure VO (X : Cx) (e : Option Expr) (t : TOp) : Prop where
  po : ∀ B, PO X e (upO X.K B t)
theorem po_imp {e : Option Expr} {t t' : L2.TO} (h : PO X e t) (f : ∀ σ H Q, t' σ H Q → t σ H Q) : PO X e t' := ⟨fun pins s σ H Q I w => h.run pins s σ H Q I (f σ H Q w)⟩
theorem vo_none : VO X none (fun _ G => G none) := ⟨fun B => po_imp po_none fun σ H Q ⟨F, Ω, ρ, G, en, g, k⟩ => k none F Ω H (Ext.refl en.wd) g⟩
def inC (c : C) (G : Int → Prop) : Prop := match c with
  | .sh (.int i) => G i
  | _ => False
theorem vo_some {ta : TC} (ha : SE X a ta) : VO X (some a) (fun ρ G => ta ρ fun c => inC c fun i => G (some i)) := by
  refine ⟨fun B => po_imp (po_some (ha.pe B)) fun σ H Q ⟨F, Ω, ρ, G, en, g, k⟩ => ⟨F, Ω, ρ, _, en, g, fun c v F' Ω' H' A x r o gc => ?_⟩⟩
  unfold inC at gc
  split at gc
  · rename_i i
    obtain ⟨r, _⟩ := r
    cases r
    exact ⟨i, rfl, k (some i) F' Ω' H' x gc⟩
  · exact gc.elim
def slD {α : Type} (xs : List α) (lo hi : Option Int) : List α := (xs.drop (HT.sIx xs.length 0 lo)).take (HT.sIx xs.length xs.length hi - HT.sIx xs.length 0 lo)
theorem cutV_reps {F : Hp} {vs : List V} {ds : List D} {lo hi : Option Int} (r : Reps K F vs ds) : Reps K F (cutV vs lo hi) (slD ds lo hi) := by
  unfold cutV slD
  rw [r.length]
  exact (r.drop _).take _
def cSl (x : C) (lo hi : Option Int) (G : CK) : Prop := match x with
  | .sh (.list ds) => G (.ol (slD ds lo hi))
  | .ol ds => G (.ol (slD ds lo hi))
  | .sh (.tuple ds) => G (.sh (.tuple (slD ds lo hi)))
  | .sh (.str z) => z.length ≤ sizeLine ∧ G (.sh (.str (cutS z lo hi)))
  | _ => False
abbrev rSlA3 (K : Fg) : V → Option Int → Option Int → Hp → VK → Prop := fun x lo hi H Q => (rSlL K x lo hi H Q ∨ rSlA K x lo hi H Q) ∨ rSlS x lo hi H Q
theorem sl_A3 : SlR X (rSlA3 X.K) := SlR.or (SlR.or sl_list sl_tupA) sl_str
theorem vc_sl {lo hi : Option Expr} {p2 : Pos} {ta : TC} {tl th : TOp} (ha : SE X a ta) (hl : VO X lo tl) (hh : VO X hi th) :
    VC X (.Subscript a (.Slice lo hi none p2) pos) (fun ρ G => ta ρ fun x => tl ρ fun l => th ρ fun h => cSl x l h G) := by
  refine ⟨fun B => pe_imp (pe_slice sl_A3 (ha.pe B) (hl.po B) (hh.po B)) fun σ H Q ⟨F, Ω, ρ, G, en, g, k⟩ => ⟨F, Ω, ρ, _, en, g, fun c v F1 Ω1 H1 A x1 r1 o1 g1 => ?_⟩⟩
  refine ⟨F1, Ω1, ρ, _, en.ext x1, g1, fun l F2 Ω2 H2 x2 g2 => ⟨F2, Ω2, ρ, _, (en.ext x1).ext x2, g2, fun h F3 Ω3 H3 x3 g3 => ?_⟩⟩
  have r3 := (r1.ext x2 o1).ext x3 (o1.ext x2 r1.there)
  have k3 := k.ext (x1.trans (x2.trans x3))
  have w := x3.wd
  unfold cSl at g3
  split at g3
  · rename_i ds
    obtain ⟨a, vs, rfl, ea, qa⟩ := lsC_get (ds := ds) w r3 rfl
    exact .inl (.inl ⟨a, vs, rfl, .inl (.inl ea), fun p n => k3.ol w n (cutV_reps qa) g3⟩)
  · rename_i ds
    obtain ⟨a, vs, rfl, ea, qa⟩ := lsC_get (ds := ds) w r3 rfl
    exact .inl (.inl ⟨a, vs, rfl, .inl (.inl ea), fun p n => k3.ol w n (cutV_reps qa) g3⟩)
  · rename_i ds
    obtain ⟨a, vs, rfl, fa, ea, qa⟩ := tup_get w r3
    refine .inl (.inr ⟨a, vs, rfl, ea, fun z => ?_, fun z p n => k3.tup w n (cutV_reps qa) g3⟩)
    have e : slD ds l h = ds := by
      unfold slD
      rw [← qa.length, z.1, z.2, List.drop_zero, Nat.sub_zero, List.take_of_length_le (by rw [qa.length]; exact Nat.le_refl _)]
    rw [e] at g3
    exact k3.sh (Ext.refl w) (.tup fa qa) g3
  · rename_i z
    obtain ⟨hz, g3⟩ := g3
    obtain ⟨r3, _⟩ := r3
    cases r3
    exact .inr ⟨z, rfl, hz, k3.sh (Ext.refl w) (.str _) g3⟩
  · exact g3.elim
end
end TL
namespace TL
open PySem PySem.Spec PyProof.Rows L2
section
variable {X : Cx} {a b e e1 e2 : Expr} {es : List Expr} {pos : Pos} {K : Fg}
/-! ### lists of data, of arguments -/
abbrev TDs := List C → (List D → Prop) → Prop
def upL (K : Fg) (B : Bs) (tl : TDs) : TA := fun σ H Q => ∃ F Ω ρ G, En K B F Ω H σ ρ ∧ tl ρ G ∧ ∀ ds vs F' Ω' H', Ext F Ω H F' Ω' H' → Reps K F' vs ds → G ds → Q vs H'
structure VL (X : Cx) (es : List Expr) (tl : TDs) : Prop where
  pa : ∀ B, PA X es (upL X.K B tl)
theorem vl_nil : VL X [] (fun _ G => G []) := ⟨fun B => pa_imp pa_nil fun σ H Q ⟨F, Ω, ρ, G, en, g, k⟩ => k [] [] F Ω H (Ext.refl en.wd) .nil g⟩
theorem vl_cons {te : TC} {tl : TDs} (h : VC X e te) (t : VL X es tl) (hs : starEach (e :: es) X.env = (false, eval e X.env) :: starEach es X.env := by rfl) : VL X (e :: es) (fun ρ G => te ρ fun c => fz c fun d => tl ρ fun ds => G (d :: ds)) := by
  refine ⟨fun B => pa_imp (pa_cons (h.vd.vc.pe B) (t.pa B) hs) fun σ H Q ⟨F, Ω, ρ, G, en, g, k⟩ => ?_⟩
  refine ⟨F, Ω, ρ, fun c => ∃ d, c = .sh d ∧ tl ρ fun ds => G (d :: ds), en, ?_, fun c v F1 Ω1 H1 A1 x1 r1 o1 f1 ⟨d, hc, g1⟩ => ?_⟩
  · have m : (fun c => fz c fun d => ∃ d', C.sh d = .sh d' ∧ tl ρ fun ds => G (d' :: ds)) = fun c => fz c fun d => tl ρ fun ds => G (d :: ds) := by
      funext c
      cases c <;> simp [fz]
    show te ρ fun c => fz c fun d => ∃ d', C.sh d = .sh d' ∧ tl ρ fun ds => G (d' :: ds)
    rw [m]
    exact g
  · subst hc
    refine ⟨F1, Ω1, ρ, _, en.ext x1, g1, fun ds vs F2 Ω2 H2 x2 r2 g2 => k (d :: ds) (v :: vs) F2 Ω2 H2 (x1.trans x2) (.cons (r1.1.gr x2.sub) r2) g2⟩
def fzM (c : C) (G : CK) : Prop := match c with
  | .mo I => G (.mo I)
  | c => fz c fun d => G (.sh d)
def RCs (K : Fg) (F : Hp) (Ω : Om) (H : Hp) : List C → List V → Prop
  | [], [] => True
  | c :: cs, v :: vs => c ≠ .un ∧ RC K F Ω H c v [] ∧ RCs K F Ω H cs vs
  | _, _ => False
theorem RCs.go {F F' : Hp} {Ω Ω' : Om} {H H' : Hp} (g : Gr F F') (ho : ∀ a I, Ω a = some I → Ω' a = some I) : ∀ {cs : List C} {vs : List V}, RCs K F Ω H cs vs → RCs K F' Ω' H' cs vs
  | [], [], _ => trivial
  | _ :: _, _ :: _, ⟨n, r, t⟩ => ⟨n, r.go g (fun _ m => nomatch m) ho, RCs.go g ho t⟩
def upA (K : Fg) (B : Bs) (tl : TL) : TA := fun σ H Q => ∃ F Ω ρ G, En K B F Ω H σ ρ ∧ tl ρ G ∧ ∀ cs vs F' Ω' H', Ext F Ω H F' Ω' H' → RCs K F' Ω' H' cs vs → G cs → Q vs H'
structure VA (X : Cx) (es : List Expr) (tl : TL) : Prop where
  pa : ∀ B, PA X es (upA X.K B tl)
theorem va_nil : VA X [] (fun _ G => G []) := ⟨fun B => pa_imp pa_nil fun σ H Q ⟨F, Ω, ρ, G, en, g, k⟩ => k [] [] F Ω H (Ext.refl en.wd) trivial g⟩
theorem va_cons {te : TC} {tl : TL} (h : VC X e te) (t : VA X es tl) (hs : starEach (e :: es) X.env = (false, eval e X.env) :: starEach es X.env := by rfl) : VA X (e :: es) (fun ρ G => te ρ fun c => fzM c fun c' => tl ρ fun cs => G (c' :: cs)) := by
  refine ⟨fun B => pa_imp (pa_cons (h.pe B) (t.pa B) hs) fun σ H Q ⟨F, Ω, ρ, G, en, g, k⟩ => ?_⟩
  refine ⟨F, Ω, ρ, _, en, g, fun c v F1 Ω1 H1 A1 x1 r1 o1 f1 g1 => ?_⟩
  have fr : ∀ {k' : D → Prop}, fz c k' → (∀ d, k' d → tl ρ fun cs => G (.sh d :: cs)) → upA X.K B tl σ H1 fun vs H2 => Q (v :: vs) H2 := by
    intro k' hz hk
    obtain ⟨F2, d, gr, w2, r2, hd, off⟩ := freeze x1.wd r1 o1 hz
    have x2 : Ext F Ω H F2 Ω1 H1 := ⟨x1.sub.trans gr, fun b hb => (off b fun m => hb (f1 b m)).trans (x1.new b hb), x1.keep, x1.here, x1.omg, x1.omn, w2⟩
    exact ⟨F2, Ω1, ρ, _, en.ext x2, hk d hd, fun cs vs F3 Ω3 H3 x3 r3 g3 => k (.sh d :: cs) (v :: vs) F3 Ω3 H3 (x2.trans x3) ⟨by simp, ⟨r2.gr x3.sub, rfl⟩, r3⟩ g3⟩
  cases c with
  | mo I =>
    obtain ⟨a0, rfl, e0, rfl⟩ := r1
    exact ⟨F1, Ω1, ρ, _, en.ext x1, g1, fun cs vs F3 Ω3 H3 x3 r3 g3 => k (.mo I :: cs) (.ref a0 :: vs) F3 Ω3 H3 (x1.trans x3) ⟨by simp, ⟨a0, rfl, x3.omg _ _ e0, rfl⟩, r3⟩ g3⟩
  | un => exact fr g1 fun d h => h
  | sh d => exact fr (k' := fun d => tl ρ fun cs => G (.sh d :: cs)) g1 fun d h => h
  | ol ds => exact fr (k' := fun d => tl ρ fun cs => G (.sh d :: cs)) g1 fun d h => h
  | oll ds => exact fr (k' := fun d => tl ρ fun cs => G (.sh d :: cs)) g1 fun d h => h
  | od ds => exact fr (k' := fun d => tl ρ fun cs => G (.sh d :: cs)) g1 fun d h => h
  | odT ds => exact fr (k' := fun d => tl ρ fun cs => G (.sh d :: cs)) g1 fun d h => h
/-! ### displays -/
theorem vc_tup {x1 : Nat} {tl : TDs} (h : VL X es tl) (hz : es.length ≤ 1000 := by decide) : VC X (.Tuple es x1 pos) (fun ρ G => tl ρ fun ds => ds.length ≤ sizeLine ∧ G (.sh (.tuple ds))) :=
  ⟨fun B => pe_imp (pe_tup (h.pa B)) fun σ H Q ⟨F, Ω, ρ, G, en, g, k⟩ => ⟨F, Ω, ρ, _, en, g, fun ds vs F1 Ω1 H1 x1 r1 g1 => ⟨by rw [r1.length]; exact g1.1, fun p n => (k.ext x1).tup x1.wd n r1 g1.2⟩⟩⟩
theorem vc_lst {tl : TDs} (h : VL X es tl) : VC X (.List es pos) (fun ρ G => tl ρ fun ds => ds.length ≤ sizeLine ∧ G (.ol ds)) :=
  ⟨fun B => pe_imp (pe_lst (h.pa B)) fun σ H Q ⟨F, Ω, ρ, G, en, g, k⟩ => ⟨F, Ω, ρ, _, en, g, fun ds vs F1 Ω1 H1 x1 r1 g1 => ⟨by rw [r1.length]; exact g1.1, fun p n => (k.ext x1).ol x1.wd n r1 g1.2⟩⟩⟩
/-! ### built-in calls -/
def OkC1 (K : Fg) (r : List V → Hp → VK → Prop) (R : C → CK → Prop) : Prop := OkUn K (fun v H Q => r [v] H Q) R
def OkC2 (K : Fg) (r : List V → Hp → VK → Prop) (R : C → C → CK → Prop) : Prop := OkBin K (fun v u H Q => r [v, u] H Q) R
theorem vc_b1 {x : Str} {id : String} {p : Pos} {r : List V → Hp → VK → Prop} {R : C → CK → Prop} (hc : CallR X (.builtin id) r) (ok : OkC1 X.K r R) (hg : Gl X x) (hm : X.mg x = none) (hv : bootBuiltins x = some (.builtin id)) {ta : TC} (ha : SE X a ta)
    (hs : starEach [a] X.env = (false, eval a X.env) :: starEach [] X.env := by rfl) (hn : x ≠ "__name__" := by decide) (hdb : (x == ("__debug__" : Str)) = false := by decide) : VC X (.Call (.Name x p) [a] [] pos) (cUn R ta) :=
  ⟨fun B => pe_imp (pe_callB hc hg hm hv (pa_cons (ha.pe B) pa_nil hs) hn hdb hs) fun σ H Q h => up_un (r := fun v H Q => r [v] H Q) ok h⟩
theorem vc_t1 {x : Str} {id : String} {p : Pos} {r : List V → Hp → VK → Prop} {R : C → CK → Prop} (hc : CallR X (.type id) r) (ok : OkC1 X.K r R) (hg : Gl X x) (hm : X.mg x = none) (hv : bootBuiltins x = some (.type id)) {ta : TC} (ha : SE X a ta)
    (hs : starEach [a] X.env = (false, eval a X.env) :: starEach [] X.env := by rfl) (hn : x ≠ "__name__" := by decide) (hdb : (x == ("__debug__" : Str)) = false := by decide) : VC X (.Call (.Name x p) [a] [] pos) (cUn R ta) :=
  ⟨fun B => pe_imp (pe_callTy hc hg hm hv (pa_cons (ha.pe B) pa_nil hs) hn hdb hs) fun σ H Q h => up_un (r := fun v H Q => r [v] H Q) ok h⟩
theorem vc_b2 {x : Str} {id : String} {p : Pos} {r : List V → Hp → VK → Prop} {R : C → C → CK → Prop} (hc : CallR X (.builtin id) r) (ok : OkC2 X.K r R) (hg : Gl X x) (hm : X.mg x = none) (hv : bootBuiltins x = some (.builtin id)) {ta tb : TC} (ha : SE X a ta) (hb : SE X b tb)
    (hs : starEach [a, b] X.env = (false, eval a X.env) :: starEach [b] X.env := by rfl) (hs2 : starEach [b] X.env = (false, eval b X.env) :: starEach [] X.env := by rfl) (hn : x ≠ "__name__" := by decide) (hdb : (x == ("__debug__" : Str)) = false := by decide) : VC X (.Call (.Name x p) [a, b] [] pos) (cBin R ta tb) :=
  ⟨fun B => pe_imp (pe_callB hc hg hm hv (pa_cons (ha.pe B) (pa_cons (hb.pe B) pa_nil hs2) hs) hn hdb hs (by rw [hs2]; rfl)) fun σ H Q h => up_bin (r := fun v u H Q => r [v, u] H Q) ok h⟩
/-- len -/
def cLen (c : C) (G : CK) : Prop := match c with
  | .sh (.list ds) => ds.length ≤ sizeLine → G (.sh (.int ds.length))
  | .ol ds => ds.length ≤ sizeLine → G (.sh (.int ds.length))
  | .oll ds => ds.length ≤ sizeLine → G (.sh (.int ds.length))
  | .sh (.tuple ds) => ds.length ≤ sizeLine → G (.sh (.int ds.length))
  | .sh (.str z) => z.length ≤ sizeLine ∧ G (.sh (.int z.length))
  | _ => False
theorem RLL.length {F H : Hp} : ∀ {vs : List V} {dss : List (List D)} {as : List Addr}, RLL K F H vs dss as → vs.length = dss.length
  | _, _, _, .nil => rfl
  | _, _, _, .cons _ _ t => congrArg (· + 1) t.length
/-- what is a fact of every held heap may be used behind an evaluation -/
theorem pe_fact {φ : Hp → Prop} {t : TE} (h : PE X e t) (f : ∀ pins σ H s, Inv X pins σ H s → φ H) : PE X e (fun σ H Q => t σ H fun v H' => φ H' → Q v H') :=
  ⟨fun pins s σ H Q I w => thn (h.run pins s σ H _ I w) fun u s1 ⟨v, H1, I1, r, q⟩ => ⟨v, H1, I1, r, q (f _ _ _ _ I1)⟩⟩
def Lens (K : Fg) (H : Hp) : Prop := (∀ a xs, SqL K H a xs → xs.length ≤ sizeLine) ∧ ∀ a xs, SqT K H a xs → xs.length ≤ sizeLine
theorem lens_of {pins : List (Addr × Obj)} {σ : L2.St} {H : Hp} {s : Shared} (I : Inv X pins σ H s) : Lens X.K H := ⟨fun a xs h => (I.list h).choose_spec.2.2, fun a xs h => (I.tuple h).choose_spec.2.2⟩
theorem ok_len {F : Hp} {Ω : Om} {H : Hp} {c : C} {v : V} {A : List Addr} {G : CK} {Q : VK} (w : Wd F Ω H) (r : RC K F Ω H c v A) (h : cLen c G) (k : Fin K F Ω H G Q) : ∃ x n, [v] = [x] ∧ LenV K x H n ∧ (Lens K H → Q (.int n) H) := by
  unfold cLen at h
  split at h
  · rename_i ds
    obtain ⟨a, vs, rfl, ea, qa⟩ := lsC_get (ds := ds) w r rfl
    exact ⟨_, _, rfl, .inl ⟨vs, .inl (.inl ea), rfl⟩, fun L => k.sh (Ext.refl w) (.int _) (by rw [qa.length]; exact h (by rw [← qa.length]; exact L.1 _ _ (.inl (.inl ea))))⟩
  · rename_i ds
    obtain ⟨a, vs, rfl, ea, qa⟩ := lsC_get (ds := ds) w r rfl
    exact ⟨_, _, rfl, .inl ⟨vs, .inl (.inl ea), rfl⟩, fun L => k.sh (Ext.refl w) (.int _) (by rw [qa.length]; exact h (by rw [← qa.length]; exact L.1 _ _ (.inl (.inl ea))))⟩
  · rename_i ds
    obtain ⟨a, vs, as, rfl, _, ea, qa, _⟩ := r
    exact ⟨_, _, rfl, .inl ⟨vs, .inl (.inl ea), rfl⟩, fun L => k.sh (Ext.refl w) (.int _) (by rw [qa.length]; exact h (by rw [← qa.length]; exact L.1 _ _ (.inl (.inl ea))))⟩
  · rename_i ds
    obtain ⟨a, vs, rfl, fa, ea, qa⟩ := tup_get w r
    exact ⟨_, _, rfl, .inr ⟨vs, ea, rfl⟩, fun L => k.sh (Ext.refl w) (.int _) (by rw [qa.length]; exact h (by rw [← qa.length]; exact L.2 _ _ ea))⟩
  · rename_i z
    obtain ⟨r, _⟩ := r
    cases r
    exact ⟨_, _, rfl, ⟨h.1, rfl⟩, fun _ => k.sh (Ext.refl w) (.int _) h.2⟩
  · exact h.elim
theorem vc_len {p : Pos} {ta : TC} (ha : SE X a ta) (hg : Gl X "len") (hm : X.mg "len" = none) (hs : starEach [a] X.env = (false, eval a X.env) :: starEach [] X.env := by rfl) : VC X (.Call (.Name "len" p) [a] [] pos) (cUn cLen ta) :=
  ⟨fun B => pe_imp (pe_fact (φ := Lens X.K) (pe_callB call_len hg hm PySem.boot_len (pa_cons (ha.pe B) pa_nil hs) (by decide) (by decide) hs) fun _ _ _ _ I => lens_of I) fun σ H Q ⟨F, Ω, ρ, G, en, g, k⟩ =>
    ⟨F, Ω, ρ, _, en, g, fun c v F' Ω' H' A x r o gc => ok_len x.wd r gc (k.ext x)⟩⟩
/-- lists of ints, bools -/
theorem ints_of {F : Hp} : ∀ {ns : List Int} {vs : List V}, Reps K F vs (ns.map .int) → vs = ns.map V.int
  | [], _, .nil => rfl
  | _ :: _, _, .cons h t => by cases h; rw [ints_of t]; rfl
theorem bls_of {F : Hp} : ∀ {ns : List Bool} {vs : List V}, Reps K F vs (ns.map .bool) → vs = ns.map V.bl
  | [], _, .nil => rfl
  | _ :: _, _, .cons h t => by cases h; rw [bls_of t]; rfl
theorem strs_of {F : Hp} : ∀ {ns : List Str} {vs : List V}, Reps K F vs (ns.map .str) → vs = ns.map V.str
  | [], _, .nil => rfl
  | _ :: _, _, .cons h t => by cases h; rw [strs_of t]; rfl
theorem reps_ints (F : Hp) : ∀ ns : List Int, Reps K F (ns.map V.int) (ns.map .int)
  | [] => .nil
  | i :: r => .cons (.int i) (reps_ints F r)
theorem reps_strs (F : Hp) : ∀ ns : List Str, Reps K F (ns.map V.str) (ns.map .str)
  | [] => .nil
  | i :: r => .cons (.str i) (reps_strs F r)
def cSum (c : C) (G : CK) : Prop := ∃ ns : List Int, lsC c = some (ns.map .int) ∧ G (.sh (.int ns.sum))
theorem ok_sum : OkC1 K (rSum K) cSum := by
  intro F Ω H c v A G Q w r ⟨ns, hl, h⟩ k
  obtain ⟨a, vs, rfl, ea, qa⟩ := lsC_get w r hl
  cases ints_of qa
  exact ⟨a, ns, rfl, .inl (.inl ea), k.sh (Ext.refl w) (.int _) h⟩
theorem vc_sum {p : Pos} {ta : TC} (ha : SE X a ta) (hg : Gl X "sum") (hm : X.mg "sum" = none) (hc : X.calm = true := by rfl) (hs : starEach [a] X.env = (false, eval a X.env) :: starEach [] X.env := by rfl) : VC X (.Call (.Name "sum" p) [a] [] pos) (cUn cSum ta) := vc_b1 (cr_sum hc) ok_sum hg hm (by decide +kernel) ha hs
def cAll (c : C) (G : CK) : Prop := ∃ bs : List Bool, lsC c = some (bs.map .bool) ∧ G (.sh (.bool (bs.all id)))
def cAny (c : C) (G : CK) : Prop := ∃ bs : List Bool, lsC c = some (bs.map .bool) ∧ G (.sh (.bool (bs.any id)))
theorem ok_all : OkC1 K (rAll K) cAll := by
  intro F Ω H c v A G Q w r ⟨ns, hl, h⟩ k
  obtain ⟨a, vs, rfl, ea, qa⟩ := lsC_get w r hl
  cases bls_of qa
  exact ⟨a, ns, rfl, .inl (.inl ea), k.sh (Ext.refl w) (.bl _) h⟩
theorem ok_any : OkC1 K (rAny K) cAny := by
  intro F Ω H c v A G Q w r ⟨ns, hl, h⟩ k
  obtain ⟨a, vs, rfl, ea, qa⟩ := lsC_get w r hl
  cases bls_of qa
  exact ⟨a, ns, rfl, .inl (.inl ea), k.sh (Ext.refl w) (.bl _) h⟩
theorem vc_all {p : Pos} {ta : TC} (ha : SE X a ta) (hg : Gl X "all") (hm : X.mg "all" = none) (hc : X.calm = true := by rfl) (hs : starEach [a] X.env = (false, eval a X.env) :: starEach [] X.env := by rfl) : VC X (.Call (.Name "all" p) [a] [] pos) (cUn cAll ta) := vc_b1 (cr_all hc) ok_all hg hm (by decide +kernel) ha hs
theorem vc_any {p : Pos} {ta : TC} (ha : SE X a ta) (hg : Gl X "any") (hm : X.mg "any" = none) (hc : X.calm = true := by rfl) (hs : starEach [a] X.env = (false, eval a X.env) :: starEach [] X.env := by rfl) : VC X (.Call (.Name "any" p) [a] [] pos) (cUn cAny ta) := vc_b1 (cr_any hc) ok_any hg hm (by decide +kernel) ha hs
/-- int of an int, a bool -/
def cInt (c : C) (G : CK) : Prop := match c with
  | .sh (.int i) => G (.sh (.int i))
  | _ => False
theorem vc_intI {p : Pos} {ta : TC} (ha : SE X a ta) (hg : Gl X "int") (hm : X.mg "int" = none) (hs : starEach [a] X.env = (false, eval a X.env) :: starEach [] X.env := by rfl) : VC X (.Call (.Name "int" p) [a] [] pos) (cUn cInt ta) :=
  vc_t1 call_int1 (fun F Ω H c v A G Q w r h k => by
    unfold cInt at h
    split at h
    · rename_i i
      obtain ⟨r, _⟩ := r
      cases r
      exact .inl ⟨i, rfl, k.sh (Ext.refl w) (.int _) h⟩
    · exact h.elim) hg hm (by decide +kernel) ha hs
def cAbs (c : C) (G : CK) : Prop := match c with
  | .sh (.int i) => G (.sh (.int (if i < 0 then -i else i)))
  | _ => False
theorem vc_abs {p : Pos} {ta : TC} (ha : SE X a ta) (hg : Gl X "abs") (hm : X.mg "abs" = none) (hs : starEach [a] X.env = (false, eval a X.env) :: starEach [] X.env := by rfl) : VC X (.Call (.Name "abs" p) [a] [] pos) (cUn cAbs ta) :=
  vc_b1 call_abs (fun F Ω H c v A G Q w r h k => by
    unfold cAbs at h
    split at h
    · rename_i i
      obtain ⟨r, _⟩ := r
      cases r
      exact ⟨i, rfl, k.sh (Ext.refl w) (.int _) h⟩
    · exact h.elim) hg hm (by decide +kernel) ha hs
/-- str of an int -/
def cStr (c : C) (G : CK) : Prop := match c with
  | .sh (.int i) => i.natAbs.log2 < 1920 ∧ G (.sh (.str (toString i)))
  | _ => False
theorem vc_strI {p : Pos} {ta : TC} (ha : SE X a ta) (hg : Gl X "str") (hm : X.mg "str" = none) (hs : starEach [a] X.env = (false, eval a X.env) :: starEach [] X.env := by rfl) : VC X (.Call (.Name "str" p) [a] [] pos) (cUn cStr ta) :=
  vc_t1 call_str_int (fun F Ω H c v A G Q w r h k => by
    unfold cStr at h
    split at h
    · rename_i i
      obtain ⟨r, _⟩ := r
      cases r
      exact ⟨i, rfl, h.1, k.sh (Ext.refl w) (.str _) h.2⟩
    · exact h.elim) hg hm (by decide +kernel) ha hs
/-- list(xs), tuple(xs) -/
def cList (c : C) (G : CK) : Prop := match c with
  | .sh (.list ds) => G (.ol ds)
  | .ol ds => G (.ol ds)
  | .sh (.tuple ds) => G (.ol ds)
  | _ => False
theorem vc_list {p : Pos} {ta : TC} (ha : SE X a ta) (hg : Gl X "list") (hm : X.mg "list" = none) (hs : starEach [a] X.env = (false, eval a X.env) :: starEach [] X.env := by rfl) : VC X (.Call (.Name "list" p) [a] [] pos) (cUn cList ta) :=
  vc_t1 call_list_of (fun F Ω H c v A G Q w r h k => by
    unfold cList at h
    split at h
    · rename_i ds
      obtain ⟨a, vs, rfl, ea, qa⟩ := lsC_get (ds := ds) w r rfl
      exact ⟨a, vs, rfl, .inl (.inl (.inl ea)), fun l n => k.ol w n qa h⟩
    · rename_i ds
      obtain ⟨a, vs, rfl, ea, qa⟩ := lsC_get (ds := ds) w r rfl
      exact ⟨a, vs, rfl, .inl (.inl (.inl ea)), fun l n => k.ol w n qa h⟩
    · rename_i ds
      obtain ⟨a, vs, rfl, fa, ea, qa⟩ := tup_get w r
      exact ⟨a, vs, rfl, .inr ea, fun l n => k.ol w n qa h⟩
    · exact h.elim) hg hm (by decide +kernel) ha hs
def cTuple (c : C) (G : CK) : Prop := match c with
  | .sh (.list ds) => G (.sh (.tuple ds))
  | .ol ds => G (.sh (.tuple ds))
  | .sh (.tuple ds) => G (.sh (.tuple ds))
  | _ => False
theorem vc_tuple {p : Pos} {ta : TC} (ha : SE X a ta) (hg : Gl X "tuple") (hm : X.mg "tuple" = none) (hs : starEach [a] X.env = (false, eval a X.env) :: starEach [] X.env := by rfl) : VC X (.Call (.Name "tuple" p) [a] [] pos) (cUn cTuple ta) :=
  vc_t1 call_tuple_of (fun F Ω H c v A G Q w r h k => by
    unfold cTuple at h
    split at h
    · rename_i ds
      obtain ⟨a, vs, rfl, ea, qa⟩ := lsC_get (ds := ds) w r rfl
      exact ⟨a, vs, rfl, .inl ⟨.inl (.inl ea), fun l n => k.tup w n qa h⟩⟩
    · rename_i ds
      obtain ⟨a, vs, rfl, ea, qa⟩ := lsC_get (ds := ds) w r rfl
      exact ⟨a, vs, rfl, .inl ⟨.inl (.inl ea), fun l n => k.tup w n qa h⟩⟩
    · rename_i ds
      obtain ⟨a, vs, rfl, fa, ea, qa⟩ := tup_get w r
      exact ⟨a, vs, rfl, .inr ⟨ea, k.sh (Ext.refl w) (.tup fa qa) h⟩⟩
    · exact h.elim) hg hm (by decide +kernel) ha hs
/-- min, max of two ints -/
abbrev cMax2 := cI2 fun i j G => G (.sh (.int (if j > i then j else i)))
abbrev cMin2 := cI2 fun i j G => G (.sh (.int (if j < i then j else i)))
theorem ok_cI2 {g : Int → Int → V} {f : Int → Int → CK → Prop} {d : Int → Int → D} (hr : ∀ F i j, Rep K F (g i j) (d i j)) (hf : ∀ i j G, f i j G → G (.sh (d i j))) : OkC2 K (fun xs H Q => ∃ i j, xs = [.int i, .int j] ∧ Q (g i j) H) (cI2 f) := by
  intro F Ω H c1 c2 v1 v2 A1 A2 G Q w r1 r2 h k
  unfold cI2 at h
  split at h
  · rename_i i j
    obtain ⟨r1, _⟩ := r1
    obtain ⟨r2, _⟩ := r2
    cases r1
    cases r2
    exact ⟨i, j, rfl, k.sh (Ext.refl w) (hr F i j) (hf i j _ h)⟩
  · exact h.elim
theorem vc_max2 {p : Pos} {ta tb : TC} (ha : SE X a ta) (hb : SE X b tb) (hg : Gl X "max") (hm : X.mg "max" = none) (hc : X.calm = true := by rfl) (hs : starEach [a, b] X.env = (false, eval a X.env) :: starEach [b] X.env := by rfl) (hs2 : starEach [b] X.env = (false, eval b X.env) :: starEach [] X.env := by rfl) :
    VC X (.Call (.Name "max" p) [a, b] [] pos) (cBin cMax2 ta tb) := vc_b2 (call_max2 hc) (ok_cI2 (d := fun i j => .int (if j > i then j else i)) (fun _ _ _ => .int _) fun _ _ _ h => h) hg hm (by decide +kernel) ha hb hs hs2
theorem vc_min2 {p : Pos} {ta tb : TC} (ha : SE X a ta) (hb : SE X b tb) (hg : Gl X "min") (hm : X.mg "min" = none) (hc : X.calm = true := by rfl) (hs : starEach [a, b] X.env = (false, eval a X.env) :: starEach [b] X.env := by rfl) (hs2 : starEach [b] X.env = (false, eval b X.env) :: starEach [] X.env := by rfl) :
    VC X (.Call (.Name "min" p) [a, b] [] pos) (cBin cMin2 ta tb) := vc_b2 (call_min2 hc) (ok_cI2 (d := fun i j => .int (if j < i then j else i)) (fun _ _ _ => .int _) fun _ _ _ h => h) hg hm (by decide +kernel) ha hb hs hs2
/-- min, max of a list of ints -/
def cMaxL (c : C) (G : CK) : Prop := ∃ ns : List Int, lsC c = some (ns.map .int) ∧ 0 < ns.length ∧ ∀ m, m ∈ ns → (∀ y, y ∈ ns → y ≤ m) → G (.sh (.int m))
def cMinL (c : C) (G : CK) : Prop := ∃ ns : List Int, lsC c = some (ns.map .int) ∧ 0 < ns.length ∧ ∀ m, m ∈ ns → (∀ y, y ∈ ns → m ≤ y) → G (.sh (.int m))
theorem vc_maxL {p : Pos} {ta : TC} (ha : SE X a ta) (hg : Gl X "max") (hm : X.mg "max" = none) (hc : X.calm = true := by rfl) (hs : starEach [a] X.env = (false, eval a X.env) :: starEach [] X.env := by rfl) : VC X (.Call (.Name "max" p) [a] [] pos) (cUn cMaxL ta) :=
  vc_b1 (cr_max hc) (fun F Ω H c v A G Q w r ⟨ns, hl, hn, h⟩ k => by
    obtain ⟨a, vs, rfl, ea, qa⟩ := lsC_get w r hl
    cases ints_of qa
    exact ⟨a, ns, rfl, .inl (.inl ea), hn, fun m h1 h2 => k.sh (Ext.refl w) (.int _) (h m h1 h2)⟩) hg hm (by decide +kernel) ha hs
theorem vc_minL {p : Pos} {ta : TC} (ha : SE X a ta) (hg : Gl X "min") (hm : X.mg "min" = none) (hc : X.calm = true := by rfl) (hs : starEach [a] X.env = (false, eval a X.env) :: starEach [] X.env := by rfl) : VC X (.Call (.Name "min" p) [a] [] pos) (cUn cMinL ta) :=
  vc_b1 (cr_min hc) (fun F Ω H c v A G Q w r ⟨ns, hl, hn, h⟩ k => by
    obtain ⟨a, vs, rfl, ea, qa⟩ := lsC_get w r hl
    cases ints_of qa
    exact ⟨a, ns, rfl, .inl (.inl ea), hn, fun m h1 h2 => k.sh (Ext.refl w) (.int _) (h m h1 h2)⟩) hg hm (by decide +kernel) ha hs
/-- sorted: of ints, of texts -/
def cSortI (c : C) (G : CK) : Prop := ∃ ns : List Int, lsC c = some (ns.map .int) ∧ ∀ ns' : List Int, ns'.Perm ns → ns'.Pairwise (· ≤ ·) → G (.ol (ns'.map .int))
theorem vc_sortI {p : Pos} {ta : TC} (ha : SE X a ta) (hg : Gl X "sorted") (hm : X.mg "sorted" = none) (hs : starEach [a] X.env = (false, eval a X.env) :: starEach [] X.env := by rfl) : VC X (.Call (.Name "sorted" p) [a] [] pos) (cUn cSortI ta) :=
  vc_b1 cr_sortedI (fun F Ω H c v A G Q w r ⟨ns, hl, h⟩ k => by
    obtain ⟨a, vs, rfl, ea, qa⟩ := lsC_get w r hl
    cases ints_of qa
    exact ⟨a, ns, rfl, .inl (.inl ea), fun ns' p h1 h2 n => k.ol w n (reps_ints F ns') (h ns' h1 h2)⟩) hg hm (by decide +kernel) ha hs
end
end TL
namespace TL
open PySem PySem.Spec PyProof.Rows L2
/-! ### a def's promise over contents -/
abbrev Prom := List C → (D → Prop) → Prop
def spT (K : Fg) (f : Prom) : Sp := fun vs H Q _ => ∃ F Ω cs G, Wd F Ω H ∧ RCs K F Ω H cs vs ∧ f cs G ∧ ∀ d v F' Ω' H', Ext F Ω H F' Ω' H' → Rep K F' v d → G d → Q v H'
section
variable {X : Cx} {a b e e1 e2 : Expr} {es rest : List Expr} {pos : Pos} {K : Fg}
theorem vc_call {CX : CXT} {k : Nat} {f : Addr} {fd : FuncData} {ps : List Str} {fT : Prom} {x : Str} {p : Pos} {tl : TL} (F : FnOk X.prog X.w X.K X.mg X.base CX0 k f fd ps (spT X.K fT)) (hr : Room k X.A) (hg : Gl X x) (hm : X.mg x = some (.ref f)) (hk : PySem.W.keepIn X.K (.ref f) = true) (hb : Binds X.K fd ps [])
    (ha : VA X (e :: es) tl) (hdb : (x == ("__debug__" : Str)) = false := by decide) (he : starEach (e :: es) X.env = (false, eval e X.env) :: starEach es X.env := by rfl) (hpl : (backTo pos (starEach es X.env)).any (·.1) = false := by rfl) :
    VC X (.Call (.Name x p) (e :: es) [] pos) (fun ρ G => tl ρ fun cs => fT cs fun d => G (.sh d)) := by
  refine ⟨fun B => pe_imp (pe_call F hr hg hm hk hb .nil pass0 (ha.pa B) hdb he hpl) fun σ H Q ⟨F0, Ω, ρ, G, en, g, k0⟩ => ⟨F0, Ω, ρ, _, en, g, fun cs vs F1 Ω1 H1 x1 r1 g1 => ?_⟩⟩
  show spT X.K fT (vs ++ []) H1 Q E0
  rw [List.append_nil]
  exact ⟨F1, Ω1, cs, _, x1.wd, r1, g1, fun d v F2 Ω2 H2 x2 r2 g2 => k0.sh (x1.trans x2) r2 g2⟩
theorem vc_call0 {k : Nat} {f : Addr} {fd : FuncData} {ps : List Str} {fT : Prom} {x : Str} {p : Pos} (F : FnOk X.prog X.w X.K X.mg X.base CX0 k f fd ps (spT X.K fT)) (hr : Room k X.A) (hg : Gl X x) (hm : X.mg x = some (.ref f)) (hk : PySem.W.keepIn X.K (.ref f) = true) (hb : Binds X.K fd ps [])
    (hdb : (x == ("__debug__" : Str)) = false := by decide) : VC X (.Call (.Name x p) [] [] pos) (fun ρ G => fT [] fun d => G (.sh d)) := by
  refine ⟨fun B => pe_imp (pe_call0 F hr hg hm hk hb .nil pass0 hdb) fun σ H Q ⟨F0, Ω, ρ, G, en, g, k0⟩ => ?_⟩
  exact ⟨F0, Ω, [], _, en.wd, trivial, g, fun d v F2 Ω2 H2 x2 r2 g2 => k0.sh x2 r2 g2⟩
/-! ### tests -/
def truC (c : C) (G : Bool → Prop) : Prop := match c with
  | .sh .none => G false
  | .sh (.bool b) => G b
  | .sh (.int i) => G (i != 0)
  | .sh (.str y) => y.length ≤ sizeLine ∧ G ((y.length : Int) != 0)
  | .sh (.list ds) => G (!ds.isEmpty)
  | .sh (.tuple ds) => G (!ds.isEmpty)
  | .ol ds => G (!ds.isEmpty)
  | .oll ds => G (!ds.isEmpty)
  | .od ds => G (!ds.isEmpty)
  | _ => False
theorem Reps.isEmpty {F : Hp} : ∀ {vs : List V} {ds : List D}, Reps K F vs ds → vs.isEmpty = ds.isEmpty
  | _, _, .nil => rfl
  | _, _, .cons _ _ => rfl
theorem vb_tru {ta : TC} (ha : SE X a ta) (he : ∀ whole, isTrue a X.env whole = (do let v ← whole; standAt a.pos; holding [v] (truthy v)) := by exact fun _ => rfl) : VB X a (fun ρ G => ta ρ fun c => truC c G) := by
  refine ⟨fun B => pt_imp (pt_truth (ha.pe B) he) fun σ H Q ⟨F, Ω, ρ, G, en, g, k⟩ => ⟨F, Ω, ρ, _, en, g, fun c v F' Ω' H' A x r o gc => ?_⟩⟩
  have w := x.wd
  have fin : ∀ b, G b → Q b H' := fun b g => k b F' Ω' H' x g
  unfold truC at gc
  split at gc
  · obtain ⟨r, _⟩ := r; cases r; exact ⟨_, rfl, fin _ gc⟩
  · obtain ⟨r, _⟩ := r; cases r; exact ⟨_, rfl, fin _ gc⟩
  · obtain ⟨r, _⟩ := r; cases r; exact ⟨_, rfl, fin _ gc⟩
  · obtain ⟨r, _⟩ := r; cases r; exact ⟨_, ⟨gc.1, rfl⟩, fin _ gc.2⟩
  · rename_i ds
    obtain ⟨a, vs, rfl, ea, qa⟩ := lsC_get (ds := ds) w r rfl
    exact ⟨_, .inl ⟨vs, .inl (.inl ea), by rw [qa.isEmpty]⟩, fin _ gc⟩
  · rename_i ds
    obtain ⟨a, vs, rfl, fa, ea, qa⟩ := tup_get w r
    exact ⟨_, .inr (.inl ⟨vs, ea, by rw [qa.isEmpty]⟩), fin _ gc⟩
  · rename_i ds
    obtain ⟨a, vs, rfl, ea, qa⟩ := lsC_get (ds := ds) w r rfl
    exact ⟨_, .inl ⟨vs, .inl (.inl ea), by rw [qa.isEmpty]⟩, fin _ gc⟩
  · obtain ⟨a, vs, as, rfl, _, ea, qa, _⟩ := r
    refine ⟨_, .inl ⟨vs, .inl (.inl ea), ?_⟩, fin _ gc⟩
    cases qa <;> rfl
  · obtain ⟨a, ks, rfl, _, ea, qa⟩ := r
    refine ⟨_, .inr (.inr ⟨ks, ea, ?_⟩), fin _ gc⟩
    cases qa <;> rfl
  · exact gc.elim
def bAnd (ta tb : TB) : TB := fun ρ G => ta ρ fun c => if c = true then tb ρ G else G false
def bOr (ta tb : TB) : TB := fun ρ G => ta ρ fun c => if c = true then G true else tb ρ G
def bNot (ta : TB) : TB := fun ρ G => ta ρ fun c => G (!c)
theorem wb_and1 {ta : TB} (ha : VB X a ta) : WB X (.BoolOp .And [a] pos) ta := ⟨fun B => pw_and1 (ha.pt B)⟩
theorem wb_or1 {ta : TB} (ha : VB X a ta) : WB X (.BoolOp .Or [a] pos) ta := ⟨fun B => pw_or1 (ha.pt B)⟩
theorem wb_and {ta tb : TB} (ha : VB X a ta) (hb : WB X (.BoolOp .And (b :: rest) pos) tb) : WB X (.BoolOp .And (a :: b :: rest) pos) (bAnd ta tb) := by
  refine ⟨fun B => pw_imp (pw_and (ha.pt B) (hb.pw B)) fun σ H Q ⟨F, Ω, ρ, G, en, g, k⟩ => ⟨F, Ω, ρ, _, en, g, fun c F' Ω' H' x gc => ?_⟩⟩
  cases c with
  | true => exact iteT ⟨F', Ω', ρ, G, en.ext x, (if_pos rfl : (if true = true then tb ρ G else G false) = _) ▸ gc, k.ext x⟩
  | false => exact iteF (k false F' Ω' H' x (by simpa using gc))
theorem wb_or {ta tb : TB} (ha : VB X a ta) (hb : WB X (.BoolOp .Or (b :: rest) pos) tb) : WB X (.BoolOp .Or (a :: b :: rest) pos) (bOr ta tb) := by
  refine ⟨fun B => pw_imp (pw_or (ha.pt B) (hb.pw B)) fun σ H Q ⟨F, Ω, ρ, G, en, g, k⟩ => ⟨F, Ω, ρ, _, en, g, fun c F' Ω' H' x gc => ?_⟩⟩
  cases c with
  | true => exact iteT (k true F' Ω' H' x (by simpa using gc))
  | false => exact iteF ⟨F', Ω', ρ, G, en.ext x, by simpa using gc, k.ext x⟩
theorem vb_not {ta : TB} (ha : VB X a ta) : VB X (.UnaryOp .Not a pos) (bNot ta) :=
  ⟨fun B => pt_imp (pt_not (ha.pt B)) fun σ H Q ⟨F, Ω, ρ, G, en, g, k⟩ => ⟨F, Ω, ρ, _, en, g, fun c F' Ω' H' x gc => k _ F' Ω' H' x gc⟩⟩
/-- values of and, or, not: bools -/
theorem vc_one {op} {ta : TC} (ha : VC X a ta) : VC X (.BoolOp op [a] pos) ta := ⟨fun B => pe_one (ha.pe B)⟩
def cAnd (ta tb : TC) : TC := fun ρ G => ta ρ fun c => blC c fun b => if b = true then tb ρ G else G (.sh (.bool false))
def cOr (ta tb : TC) : TC := fun ρ G => ta ρ fun c => blC c fun b => if b = true then G (.sh (.bool true)) else tb ρ G
theorem blC_get {F H : Hp} {Ω : Om} {c : C} {v : V} {A : List Addr} {G : Bool → Prop} (r : RC K F Ω H c v A) (h : blC c G) : ∃ b, v = .bl b ∧ G b := by
  unfold blC at h
  split at h
  · rename_i b
    obtain ⟨r, _⟩ := r
    cases r
    exact ⟨b, rfl, h⟩
  · exact h.elim
theorem vc_and {ta tb : TC} (ha : SE X a ta) (hb : VC X (.BoolOp .And (b :: rest) pos) tb) : VC X (.BoolOp .And (a :: b :: rest) pos) (cAnd ta tb) := by
  refine ⟨fun B => pe_imp (pe_and (ha.pe B) (hb.pe B)) fun σ H Q ⟨F, Ω, ρ, G, en, g, k⟩ => ⟨F, Ω, ρ, _, en, g, fun c v F' Ω' H' A x r o gc => ?_⟩⟩
  obtain ⟨z, rfl, gz⟩ := blC_get r gc
  refine ⟨z, rfl, ?_⟩
  cases z with
  | true => exact iteT ⟨F', Ω', ρ, G, en.ext x, by simpa using gz, k.ext x⟩
  | false => exact iteF (k.sh x (.bl false) (by simpa using gz))
theorem vc_or {ta tb : TC} (ha : SE X a ta) (hb : VC X (.BoolOp .Or (b :: rest) pos) tb) : VC X (.BoolOp .Or (a :: b :: rest) pos) (cOr ta tb) := by
  refine ⟨fun B => pe_imp (pe_or (ha.pe B) (hb.pe B)) fun σ H Q ⟨F, Ω, ρ, G, en, g, k⟩ => ⟨F, Ω, ρ, _, en, g, fun c v F' Ω' H' A x r o gc => ?_⟩⟩
  obtain ⟨z, rfl, gz⟩ := blC_get r gc
  refine ⟨z, rfl, ?_⟩
  cases z with
  | true => exact iteT (k.sh x (.bl true) (by simpa using gz))
  | false => exact iteF ⟨F', Ω', ρ, G, en.ext x, by simpa using gz, k.ext x⟩
theorem vc_not {ta : TC} (ha : SE X a ta) : VC X (.UnaryOp .Not a pos) (fun ρ G => ta ρ fun c => blC c fun b => G (.sh (.bool (!b)))) := by
  refine ⟨fun B => pe_imp (pe_not (ha.pe B)) fun σ H Q ⟨F, Ω, ρ, G, en, g, k⟩ => ⟨F, Ω, ρ, _, en, g, fun c v F' Ω' H' A x r o gc => ?_⟩⟩
  obtain ⟨z, rfl, gz⟩ := blC_get r gc
  exact ⟨z, rfl, k.sh x (.bl _) gz⟩
/-- a if t else b -/
def cIfE (t : TB) (ta tb : TC) : TC := fun ρ G => t ρ fun c => if c = true then ta ρ G else tb ρ G
theorem vc_if {c : Expr} {t : TB} {ta tb : TC} (hc : VB X c t) (ha : VC X a ta) (hb : VC X b tb) : VC X (.IfExp c a b pos) (cIfE t ta tb) := by
  refine ⟨fun B => pe_imp (pe_ifExp (hc.pt B) (ha.pe B) (hb.pe B)) fun σ H Q ⟨F, Ω, ρ, G, en, g, k⟩ => ⟨F, Ω, ρ, _, en, g, fun c F' Ω' H' x gc => ?_⟩⟩
  cases c with
  | true => exact iteT ⟨F', Ω', ρ, G, en.ext x, by simpa using gc, k.ext x⟩
  | false => exact iteF ⟨F', Ω', ρ, G, en.ext x, by simpa using gc, k.ext x⟩
theorem se_if {c : Expr} {t : TB} {ta tb : TC} (hc : VB X c t) (ha : SE X a ta) (hb : SE X b tb) : SE X (.IfExp c a b pos) (cIfE t ta tb) := by
  refine ⟨fun B => pe_imp (pe_ifExp (hc.pt B) (ha.pe B) (hb.pe B)) fun σ H Q ⟨F, Ω, ρ, G, en, g, k⟩ => ⟨F, Ω, ρ, _, en, g, fun c F' Ω' H' x gc => ?_⟩⟩
  cases c with
  | true => exact iteT ⟨F', Ω', ρ, G, en.ext x, by simpa using gc, k.ext x⟩
  | false => exact iteF ⟨F', Ω', ρ, G, en.ext x, by simpa using gc, k.ext x⟩
/-- a < b < c -/
theorem pe_chainC {op op' : CmpOp} {r r' : R2} {R R' : C → C → CK → Prop} {c : Expr} (ho : OpR X (compareOp op) r) (ho' : OpR X (compareOp op') r') (ok : OkBin X.K r R) (ok' : OkBin X.K r' R') {ta tb tc : TC} (ha : SE X a ta) (hb : SE X b tb) (hc : SE X c tc) :
    (∀ B σ H Q, upC X.K B (fun ρ G => ta ρ fun x => tb ρ fun y => R x y fun z => blC z fun k => if k = true then tc ρ fun u => R' y u G else G (.sh (.bool false))) σ H Q → tChain r r' (upS X.K B ta) (upS X.K B tb) (upS X.K B tc) σ H Q) := by
  intro B σ H Q ⟨F, Ω, ρ, G, en, g, k⟩
  refine ⟨F, Ω, ρ, _, en, g, fun c1 v1 F1 Ω1 H1 A1 x1 r1 o1 g1 => ⟨F1, Ω1, ρ, _, en.ext x1, g1, fun c2 v2 F2 Ω2 H2 A2 x2 r2 o2 g2 => ?_⟩⟩
  refine ok F2 Ω2 H2 c1 c2 v1 v2 A1 A2 _ _ x2.wd (r1.ext x2 o1) r2 g2 fun c3 v3 F3 Ω3 H3 A3 x3 r3 o3 f3 g3 => ?_
  obtain ⟨z, rfl, gz⟩ := blC_get r3 g3
  refine ⟨z, rfl, ?_⟩
  have en3 := ((en.ext x1).ext x2).ext x3
  have k3 := k.ext ((x1.trans x2).trans x3)
  cases z with
  | true => exact iteT ⟨F3, Ω3, ρ, _, en3, by simpa using gz, fun c4 v4 F4 Ω4 H4 A4 x4 r4 o4 g4 => ok' F4 Ω4 H4 c2 c4 v2 v4 A2 A4 _ _ x4.wd ((r2.ext x3 o2).ext x4 (o2.ext x3 r2.there)) r4 g4 (k3.ext x4)⟩
  | false => exact iteF (k3.sh (Ext.refl x3.wd) (.bl false) (by simpa using gz))
theorem vc_chain {op op' : CmpOp} {r r' : R2} {R R' : C → C → CK → Prop} {c : Expr} (ho : OpR X (compareOp op) r) (ok : OkBin X.K r R) (ho' : OpR X (compareOp op') r') (ok' : OkBin X.K r' R') {ta tb tc : TC} (ha : SE X a ta) (hb : SE X b tb) (hc : SE X c tc)
    (hm : lastMarks [op, op'] [b, c] = false := by with_unfolding_all rfl) : VC X (.Compare a [op, op'] [b, c] pos) (fun ρ G => ta ρ fun x => tb ρ fun y => R x y fun z => blC z fun k => if k = true then tc ρ fun u => R' y u G else G (.sh (.bool false))) :=
  ⟨fun B => pe_imp (pe_chain ho ho' (ha.pe B) (hb.pe B) (hc.pe B) hm) (pe_chainC ho ho' ok ok' ha hb hc B)⟩
theorem vb_chain {op op' : CmpOp} {r r' : R2} {R R' : C → C → CK → Prop} {c : Expr} (ho : OpR X (compareOp op) r) (ok : OkBin X.K r R) (ho' : OpR X (compareOp op') r') (ok' : OkBin X.K r' R') {ta tb tc : TC} (ha : SE X a ta) (hb : SE X b tb) (hc : SE X c tc)
    (hm : lastMarks [op, op'] [b, c] = false := by with_unfolding_all rfl) : VB X (.Compare a [op, op'] [b, c] pos) (fun ρ G => ta ρ fun x => tb ρ fun y => R x y fun z => blC z fun k => if k = true then tc ρ fun u => R' y u fun z => blC z G else G false) := by
  refine ⟨fun B => pt_imp (pt_chain ho ho' (ha.pe B) (hb.pe B) (hc.pe B) hm) fun σ H Q ⟨F, Ω, ρ, G, en, g, k⟩ => pe_chainC ho ho' ok ok' ha hb hc B σ H _ ⟨F, Ω, ρ, fun c => blC c G, en, g, fun c v F' Ω' H' A x r o f gc => ?_⟩⟩
  obtain ⟨z, rfl, gz⟩ := blC_get r gc
  exact ⟨z, rfl, k z F' Ω' H' x gz⟩
end
end TL
namespace TL
open PySem PySem.Spec PyProof.Rows L2
/-! ### statements -/
structure DD where
  nx : List C → Prop
  rt : D → Prop
  bk : List C → Prop := fun _ => False
  ct : List C → Prop := fun _ => False
abbrev TR := DD → List C → Prop
structure Cont (K : Fg) (B : Bs) (F : Hp) (d : DD) (De : Ends) : Prop where
  nx : ∀ σ' F' Ω' H' ρ', Gr F F' → En K B F' Ω' H' σ' ρ' → d.nx ρ' → De.nx σ' H'
  rt : ∀ v F' Ω' H' x, Gr F F' → Ext B.F B.Ω B.H F' Ω' H' → Rep K F' v x → d.rt x → De.rt v H'
  bk : ∀ σ' F' Ω' H' ρ', Gr F F' → En K B F' Ω' H' σ' ρ' → d.bk ρ' → De.bk σ' H'
  ct : ∀ σ' F' Ω' H' ρ', Gr F F' → En K B F' Ω' H' σ' ρ' → d.ct ρ' → De.ct σ' H'
theorem Cont.gr {K : Fg} {B : Bs} {F F1 : Hp} {d : DD} {De : Ends} (k : Cont K B F d De) (g : Gr F F1) : Cont K B F1 d De :=
  ⟨fun σ' F' Ω' H' ρ' g' => k.nx σ' F' Ω' H' ρ' (g.trans g'), fun v F' Ω' H' x g' => k.rt v F' Ω' H' x (g.trans g'), fun σ' F' Ω' H' ρ' g' => k.bk σ' F' Ω' H' ρ' (g.trans g'), fun σ' F' Ω' H' ρ' g' => k.ct σ' F' Ω' H' ρ' (g.trans g')⟩
def upT (K : Fg) (B : Bs) (tr : TR) : TS := fun De σ H => ∃ F Ω ρ d, En K B F Ω H σ ρ ∧ tr d ρ ∧ Cont K B F d De
structure VS (X : Cx) (st : Stmt) (tr : TR) : Prop where
  ps : ∀ B, PS X st (upT X.K B tr)
structure VSs (X : Cx) (st : List Stmt) (tr : TR) : Prop where
  pss : ∀ B, PSs X st (upT X.K B tr)
def putA (As : Nat → List Addr) (i : Nat) (A : List Addr) : Nat → List Addr := fun j => if j = i then A else As j
theorem putA_same {As : Nat → List Addr} {i : Nat} {A : List Addr} : putA As i A i = A := if_pos rfl
theorem putA_ne {As : Nat → List Addr} {i j : Nat} {A : List Addr} (h : j ≠ i) : putA As i A j = As j := if_neg h
theorem En.set {K : Fg} {B : Bs} {F F' : Hp} {Ω Ω' : Om} {H H' : Hp} {σ : L2.St} {ρ : List C} {c : C} {v : V} {A : List Addr} (e : En K B F Ω H σ ρ) (x : Ext F Ω H F' Ω' H') (r : RC K F' Ω' H' c v A) (o : Ow F' Ω' A) (f : ∀ a ∈ A, H a = none) (i : Nat) :
    En K B F' Ω' H' (σ.set i (some v)) (ρ.set i c) := by
  have e' := e.ext x
  obtain ⟨As, h1, h2, h3⟩ := e'.own
  obtain ⟨As0, h10, h20, h30⟩ := e.own
  -- the old ones stand in H
  obtain ⟨As, h1, h2, h3, hH⟩ : ∃ As : Nat → List Addr, (∀ i c, ρ[i]? = some c → c ≠ .un → ∃ v, σ[i]? = some (some v) ∧ RC K F' Ω' H' c v (As i)) ∧ (∀ i, ∀ a ∈ As i, F' a = none ∧ Ω' a = none ∧ H' a ≠ none ∧ B.H a = none) ∧ (∀ i j, i ≠ j → ∀ a ∈ As i, a ∉ As j) ∧ ∀ i, ∀ a ∈ As i, H a ≠ none := by
    refine ⟨As0, fun i c hc hn => ?_, fun i a m => ?_, h30, fun i a m => (h20 i a m).2.2.1⟩
    · obtain ⟨v, hv, r⟩ := h10 i c hc hn
      exact ⟨v, hv, r.ext x fun a m => ⟨(h20 i a m).1, (h20 i a m).2.1⟩⟩
    · obtain ⟨a1, a2, a3, a4⟩ := h20 i a m
      exact ⟨(x.new a a3).trans a1, (x.omn a a3).trans a2, x.here a a3, a4⟩
  refine ⟨e'.ex, by rw [List.length_set, List.length_set]; exact e'.len, putA As i A, fun j c' hc hn => ?_, fun j a m => ?_, fun j k hjk a m => ?_⟩
  · by_cases hj : j = i
    · subst hj
      have hl : j < ρ.length := by
        have := (List.getElem?_eq_some_iff.mp hc).1
        rwa [List.length_set] at this
      rw [List.getElem?_set_self hl] at hc
      cases hc
      rw [List.getElem?_set_self (by rw [← e'.len]; exact hl)]
      exact ⟨v, rfl, by rw [putA_same]; exact r⟩
    · rw [List.getElem?_set_ne (Ne.symm hj)] at hc
      rw [List.getElem?_set_ne (Ne.symm hj), putA_ne hj]
      exact h1 j c' hc hn
  · by_cases hj : j = i
    · subst hj
      rw [putA_same] at m
      exact ⟨(o a m).1, (o a m).2, r.there a m, e.ex.free (f a m)⟩
    · rw [putA_ne hj] at m
      exact h2 j a m
  · by_cases hj : j = i
    · subst hj
      rw [putA_same] at m
      rw [putA_ne (Ne.symm hjk)]
      exact fun m' => hH k a m' (f a m)
    · rw [putA_ne hj] at m
      by_cases hk : k = i
      · subst hk
        rw [putA_same]
        exact fun m' => hH j a m (f a m')
      · rw [putA_ne hk]
        exact h3 j k hjk a m
/-- an own list changed -/
theorem En.chg {K : Fg} {B : Bs} {F : Hp} {Ω : Om} {H : Hp} {σ : L2.St} {ρ : List C} (e : En K B F Ω H σ ρ) {i : Nat} {c c' : C} (hc : ρ[i]? = some c) (hn : c ≠ .un) :
    ∃ v A, σ[i]? = some (some v) ∧ RC K F Ω H c v A ∧ Ow F Ω A ∧ ∀ F' Ω' H' A', Ext B.F B.Ω B.H F' Ω' H' → Gr F F' → (∀ b, b ∉ A → H b ≠ none → F' b = F b ∧ Ω' b = Ω b ∧ ∀ o, H b = some o → Ω b = none → H' b = some o) → (∀ a I, Ω a = some I → Ω' a = some I) → RC K F' Ω' H' c' v A' → Ow F' Ω' A' → (∀ a ∈ A', a ∈ A ∨ H a = none) →
      En K B F' Ω' H' σ (ρ.set i c') := by
  obtain ⟨As, h1, h2, h3⟩ := e.own
  obtain ⟨v, hv, r⟩ := h1 i c hc hn
  refine ⟨v, As i, hv, r, fun a m => ⟨(h2 i a m).1, (h2 i a m).2.1⟩, fun F' Ω' H' A' x g hk ho r' o' ha => ?_⟩
  have hl : i < ρ.length := (List.getElem?_eq_some_iff.mp hc).1
  refine ⟨x, by rw [List.length_set]; exact e.len, putA As i A', fun j c1 hc1 hn1 => ?_, fun j a m => ?_, fun j k hjk a m => ?_⟩
  · by_cases hj : j = i
    · subst hj
      rw [List.getElem?_set_self hl] at hc1
      cases hc1
      exact ⟨v, hv, by rw [putA_same]; exact r'⟩
    · rw [List.getElem?_set_ne (Ne.symm hj)] at hc1
      rw [putA_ne hj]
      obtain ⟨u, hu, ru⟩ := h1 j c1 hc1 hn1
      refine ⟨u, hu, ru.go g (fun a m o q => ?_) ho⟩
      exact (hk a (h3 j i hj a m) (h2 j a m).2.2.1).2.2 o q (h2 j a m).2.1
  · by_cases hj : j = i
    · subst hj
      rw [putA_same] at m
      refine ⟨(o' a m).1, (o' a m).2, r'.there a m, ?_⟩
      rcases ha a m with z | z
      · exact (h2 j a z).2.2.2
      · exact e.ex.free z
    · rw [putA_ne hj] at m
      obtain ⟨a1, a2, a3, a4⟩ := h2 j a m
      have q := hk a (h3 j i hj a m) a3
      refine ⟨q.1.trans a1, q.2.1.trans a2, ?_, a4⟩
      cases z : H a with
      | none => exact absurd z a3
      | some o => rw [q.2.2 o z a2]; simp
  · by_cases hj : j = i
    · subst hj
      rw [putA_same] at m
      rw [putA_ne (Ne.symm hjk)]
      intro m'
      rcases ha a m with z | z
      · exact h3 j k hjk a z m'
      · exact (h2 k a m').2.2.1 z
    · rw [putA_ne hj] at m
      by_cases hk' : k = i
      · subst hk'
        rw [putA_same]
        intro m'
        rcases ha a m' with z | z
        · exact h3 j k hj a m z
        · exact (h2 j a m).2.2.1 z
      · rw [putA_ne hk']
        exact h3 j k hjk a m
section
variable {X : Cx} {a b e e1 e2 o i value : Expr} {es : List Expr} {pos pos' : Pos} {K : Fg} {st : Stmt} {sts : List Stmt} {t u : TR}
def sNext : TR := fun d ρ => d.nx ρ
def sSeq (t u : TR) : TR := fun d ρ => t { d with nx := u d } ρ
theorem vss_nil : VSs X [] sNext := ⟨fun B => pss_imp pss_nil fun De σ H ⟨F, Ω, ρ, d, en, g, k⟩ => k.nx σ F Ω H ρ (Gr.refl _) en g⟩
theorem vss_cons (h1 : VS X st t) (h2 : VSs X sts u) : VSs X (st :: sts) (sSeq t u) :=
  ⟨fun B => pss_imp (pss_cons (h1.ps B) (h2.pss B)) fun De σ H ⟨F, Ω, ρ, d, en, g, k⟩ => ⟨F, Ω, ρ, { d with nx := u d }, en, g, ⟨fun σ' F' Ω' H' ρ' gr en' g' => ⟨F', Ω', ρ', d, en', g', k.gr gr⟩, k.rt, k.bk, k.ct⟩⟩⟩
theorem vss_one (h1 : VS X st t) : VSs X [st] t := ⟨fun B => pss_one (h1.ps B)⟩
theorem vs_pass : VS X (.Pass pos) sNext := ⟨fun B => ps_imp ps_pass fun De σ H ⟨F, Ω, ρ, d, en, g, k⟩ => k.nx σ F Ω H ρ (Gr.refl _) en g⟩
theorem vs_break : VS X (.Break pos) (fun d ρ => d.bk ρ) := ⟨fun B => ps_imp ps_break fun De σ H ⟨F, Ω, ρ, d, en, g, k⟩ => k.bk σ F Ω H ρ (Gr.refl _) en g⟩
theorem vs_cont : VS X (.Continue pos) (fun d ρ => d.ct ρ) := ⟨fun B => ps_imp ps_continue fun De σ H ⟨F, Ω, ρ, d, en, g, k⟩ => k.ct σ F Ω H ρ (Gr.refl _) en g⟩
theorem vs_never : VS X st (fun _ _ => False) := ⟨fun B => ps_imp ps_never fun De σ H ⟨F, Ω, ρ, d, en, g, k⟩ => g⟩
theorem vss_never : VSs X sts (fun _ _ => False) := ⟨fun B => pss_imp pss_never fun De σ H ⟨F, Ω, ρ, d, en, g, k⟩ => g⟩
theorem vs_ret {te : TC} (h : VC X e te) : VS X (.Return (some e) pos) (fun d ρ => te ρ fun c => fz c d.rt) :=
  ⟨fun B => ps_imp (ps_ret (h.vd.vc.pe B)) fun De σ H ⟨F, Ω, ρ, d, en, g, k⟩ => ⟨F, Ω, ρ, fun c => ∃ x, c = .sh x ∧ d.rt x, en, by
    have m : (fun c => fz c fun x => ∃ x', C.sh x = .sh x' ∧ d.rt x') = fun c => fz c d.rt := by
      funext c
      cases c <;> simp [fz]
    show te ρ fun c => fz c fun x => ∃ x', C.sh x = .sh x' ∧ d.rt x'
    rw [m]
    exact g, fun c v F' Ω' H' A x r o f ⟨y, hy, gy⟩ => by
    subst hy
    exact k.rt v F' Ω' H' y x.sub (en.ex.trans x) r.1 gy⟩⟩
theorem vs_retN : VS X (.Return none pos) (fun d _ => d.rt .none) := ⟨fun B => ps_imp ps_retN fun De σ H ⟨F, Ω, ρ, d, en, g, k⟩ => k.rt .non F Ω H .none (Gr.refl _) en.ex .non g⟩
theorem vs_expr {te : TC} (h : VC X e te) (hs : swapsWith e none pos.line X.env = pure false := by rfl) : VS X (.Expr e pos) (fun d ρ => te ρ fun _ => d.nx ρ) :=
  ⟨fun B => ps_imp (ps_expr (h.pe B) hs) fun De σ H ⟨F, Ω, ρ, d, en, g, k⟩ => ⟨F, Ω, ρ, _, en, g, fun c v F' Ω' H' A x r o f gc => k.nx σ F' Ω' H' ρ x.sub (en.ext x) gc⟩⟩
theorem vs_if {c : Expr} {b1 b2 : List Stmt} {tc : TB} (hc : VB X c tc) (h1 : VSs X b1 t) (h2 : VSs X b2 u) : VS X (.If c b1 b2 pos) (fun d ρ => tc ρ fun b => if b = true then t d ρ else u d ρ) := by
  refine ⟨fun B => ps_imp (ps_if (hc.pt B) (h1.pss B) (h2.pss B)) fun De σ H ⟨F, Ω, ρ, d, en, g, k⟩ => ⟨F, Ω, ρ, _, en, g, fun b F' Ω' H' x gb => ?_⟩⟩
  cases b with
  | true => exact iteT ⟨F', Ω', ρ, d, en.ext x, by simpa using gb, k.gr x.sub⟩
  | false => exact iteF ⟨F', Ω', ρ, d, en.ext x, by simpa using gb, k.gr x.sub⟩
/-- x = e -/
theorem vs_set {n : Nat} {x : Str} {te : TC} (hN : X.N.Nodup) (hi : X.N[n]? = some x) (h : VC X e te) (hx : Loc X.env.scope x := by first | exact Or.inl rfl | exact Or.inr rfl) (hs : swapsWith e (some (.Name x pos')) pos.line X.env = pure false := by rfl) (hf : X.fn x = true ∨ X.env.scope.names.lookup x = some .local := by first | exact .inl rfl | exact .inr rfl) :
    VS X (.Assign [.Name x pos'] e pos) (fun d ρ => te ρ fun c => d.nx (ρ.set n c)) :=
  ⟨fun B => ps_imp (ps_set hN hi hx (h.pe B) hs hf) fun De σ H ⟨F, Ω, ρ, d, en, g, k⟩ => ⟨F, Ω, ρ, _, en, g, fun c v F' Ω' H' A x r o f gc => k.nx _ F' Ω' H' _ x.sub (en.set x r o f n) gc⟩⟩
/-! targets -/
abbrev VG' := D → List C → (List C → Prop) → Prop
/-- only slots of S are changed -/
def Chg (S : List Nat) (σ σ' : L2.St) : Prop := σ'.length = σ.length ∧ ∀ j, j ∉ S → σ'[j]? = σ[j]?
def upG (K : Fg) (B : Bs) (S : List Nat) (g : VG') : TG := fun v σ H Q => ∃ F Ω ρ x G, En K B F Ω H σ ρ ∧ Rep K F v x ∧ g x ρ G ∧ ∀ σ' F' Ω' H' ρ', Gr F F' → Chg S σ σ' → En K B F' Ω' H' σ' ρ' → G ρ' → Q σ' H'
structure VG (X : Cx) (tg : Expr) (S : List Nat) (g : VG') : Prop where
  pg : ∀ B, PG X tg (upG X.K B S g)
abbrev VGs' := List D → List C → (List C → Prop) → Prop
def upGs (K : Fg) (B : Bs) (S : List Nat) (g : VGs') : TGs := fun vs σ H Q => ∃ F Ω ρ xs G, En K B F Ω H σ ρ ∧ Reps K F vs xs ∧ g xs ρ G ∧ ∀ σ' F' Ω' H' ρ', Gr F F' → Chg S σ σ' → En K B F' Ω' H' σ' ρ' → G ρ' → Q σ' H'
structure VGs (X : Cx) (tg : List Expr) (S : List Nat) (g : VGs') : Prop where
  pgs : ∀ B, PGs X tg (upGs X.K B S g)
theorem Chg.set (σ : L2.St) (n : Nat) (v : Option V) : Chg [n] σ (σ.set n v) := ⟨List.length_set, fun j h => List.getElem?_set_ne fun z => h (by rw [z]; exact List.mem_cons_self)⟩
theorem Chg.trans {S T : List Nat} {σ σ1 σ2 : L2.St} (a : Chg S σ σ1) (b : Chg T σ1 σ2) : Chg (S ++ T) σ σ2 := ⟨b.1.trans a.1, fun j h => (b.2 j fun m => h (List.mem_append_right _ m)).trans (a.2 j fun m => h (List.mem_append_left _ m))⟩
theorem pg_imp {tg : Expr} {t t' : TG} (h : PG X tg t) (f : ∀ v σ H Q, t' v σ H Q → t v σ H Q) : PG X tg t' := ⟨fun pins s σ H v u Q I r w => h.run pins s σ H v u Q I r (f v σ H Q w)⟩
theorem pgs_imp {tg : List Expr} {t t' : TGs} (h : PGs X tg t) (f : ∀ v σ H Q, t' v σ H Q → t v σ H Q) : PGs X tg t' := ⟨fun pins s σ H v u Q I r w => h.run pins s σ H v u Q I r (f v σ H Q w)⟩
/-- targets that are names: the heap stays -/
def upN (K : Fg) (B : Bs) (S : List Nat) (g : VG') : TG := fun v σ H Q => ∃ F Ω ρ x G, En K B F Ω H σ ρ ∧ Rep K F v x ∧ g x ρ G ∧ ∀ σ' ρ', Chg S σ σ' → En K B F Ω H σ' ρ' → G ρ' → Q σ' H
structure VN (X : Cx) (tg : Expr) (S : List Nat) (g : VG') : Prop where
  pg : ∀ B, PG X tg (upN X.K B S g)
def upNs (K : Fg) (B : Bs) (S : List Nat) (g : VGs') : TGs := fun vs σ H Q => ∃ F Ω ρ xs G, En K B F Ω H σ ρ ∧ Reps K F vs xs ∧ g xs ρ G ∧ ∀ σ' ρ', Chg S σ σ' → En K B F Ω H σ' ρ' → G ρ' → Q σ' H
structure VNs (X : Cx) (tg : List Expr) (S : List Nat) (g : VGs') : Prop where
  pgs : ∀ B, PGs X tg (upNs X.K B S g)
theorem VN.vg {tg : Expr} {S : List Nat} {g : VG'} (h : VN X tg S g) : VG X tg S g :=
  ⟨fun B => pg_imp (h.pg B) fun v σ H Q ⟨F, Ω, ρ, d, G, en, r, g0, k⟩ => ⟨F, Ω, ρ, d, G, en, r, g0, fun σ' ρ' ch en' g' => k σ' F Ω H ρ' (Gr.refl _) ch en' g'⟩⟩
theorem vn_name {n : Nat} {x : Str} (hN : X.N.Nodup) (hi : X.N[n]? = some x) (hx : Loc X.env.scope x := by first | exact Or.inl rfl | exact Or.inr rfl) (hf : X.fn x = true ∨ X.env.scope.names.lookup x = some .local := by first | exact .inl rfl | exact .inr rfl) : VN X (.Name x pos) [n] (fun d ρ G => G (ρ.set n (.sh d))) :=
  ⟨fun B => pg_imp (pg_name hN hi hx hf) fun v σ H Q ⟨F, Ω, ρ, d, G, en, r, g, k⟩ => k _ _ (Chg.set σ n _) (en.set (Ext.refl en.wd) (c := .sh d) ⟨r, rfl⟩ ow_nil (fun _ m => nomatch m) n) g⟩
theorem vns_nil : VNs X [] [] (fun xs ρ G => xs = [] ∧ G ρ) := ⟨fun B => pgs_imp pgs_nil fun vs σ H Q ⟨F, Ω, ρ, xs, G, en, r, g, k⟩ => by
  obtain ⟨rfl, g⟩ := g
  cases r
  exact ⟨rfl, k σ ρ ⟨rfl, fun _ _ => rfl⟩ en g⟩⟩
def gConsV (g : VG') (gs : VGs') : VGs' := fun xs ρ G => match xs with
  | x :: xs => g x ρ fun ρ' => gs xs ρ' G
  | [] => False
theorem vns_cons {g : VG'} {gs : VGs'} {S T : List Nat} (h1 : VN X e S g) (h2 : VNs X es T gs) (hs : (assignEach (e :: es) X.env).map (·.2) = assign e X.env :: (assignEach es X.env).map (·.2) := by rfl) : VNs X (e :: es) (S ++ T) (gConsV g gs) :=
  ⟨fun B => pgs_imp (pgs_cons (h1.pg B) (h2.pgs B) hs) fun vs σ H Q ⟨F, Ω, ρ, xs, G, en, r, g0, k⟩ => by
    cases r with
    | nil => exact g0.elim
    | cons r rs => exact ⟨_, _, rfl, F, Ω, ρ, _, _, en, r, g0, fun σ1 ρ1 ch en1 g1 => ⟨F, Ω, ρ1, _, G, en1, rs, g1, fun σ2 ρ2 ch2 en2 g2 => k σ2 ρ2 (ch.trans ch2) en2 g2⟩⟩⟩
def gTupV (n : Nat) (gs : VGs') : VG' := fun x ρ G => match x with
  | .tuple xs => xs.length = n ∧ gs xs ρ G
  | _ => False
theorem vn_tup {k n : Nat} {gs : VGs'} {S : List Nat} (h : VNs X es S gs) (hc : X.calm = true := by rfl) (hn : (assignEach es X.env).length = n := by rfl) (hst : (assignEach es X.env).findIdx? (·.1) = none := by rfl) : VN X (.Tuple es k pos) S (gTupV n gs) :=
  ⟨fun B => pg_imp (pg_tup hc (h.pgs B) hn hst) fun v σ H Q ⟨F, Ω, ρ, x, G, en, r, g0, k0⟩ => by
    unfold gTupV at g0
    split at g0
    · rename_i xs
      cases r with
      | tup e q => exact ⟨_, _, rfl, en.wd.sub.sqT (.inl (.inl e)), by rw [q.length]; exact g0.1, F, Ω, ρ, xs, G, en, q, g0.2, k0⟩
    · exact g0.elim⟩
/-- targets = e -/
theorem vs_asg {tg : Expr} {te : TC} {g : VG'} {S : List Nat} (he : VC X e te) (hg : VG X tg S g) (hs : swapsWithSole [tg] e pos.line X.env = pure false := by rfl) (hw : swappedStores [tg] e X.env = pure none := by rfl) (h1 : (assignEach [tg] X.env).map (·.2) = [assign tg X.env] := by rfl) :
    VS X (.Assign [tg] e pos) (fun d ρ => te ρ fun c => fz c fun x => g x ρ d.nx) := by
  refine ⟨fun B => ps_imp (ps_asg (he.vd.vc.pe B) (hg.pg B) hs hw h1) fun De σ H ⟨F, Ω, ρ, d, en, g0, k⟩ => ⟨F, Ω, ρ, fun c => ∃ x, c = .sh x ∧ g x ρ d.nx, en, ?_, fun c v F' Ω' H' A x r o f ⟨y, hy, gy⟩ => ?_⟩⟩
  · have m : (fun c => fz c fun x => ∃ x', C.sh x = .sh x' ∧ g x' ρ d.nx) = fun c => fz c fun x => g x ρ d.nx := by
      funext c
      cases c <;> simp [fz]
    show te ρ fun c => fz c fun x => ∃ x', C.sh x = .sh x' ∧ g x' ρ d.nx
    rw [m]
    exact g0
  · subst hy
    exact ⟨F', Ω', ρ, y, d.nx, en.ext x, r.1, gy, fun σ2 F2 Ω2 H2 ρ2 gr2 _ en2 g2 => k.nx σ2 F2 Ω2 H2 ρ2 (x.sub.trans gr2) en2 g2⟩
/-- freezing a slot -/
def frC : C → C
  | .ol ds => .sh (.list ds)
  | .oll dss => .sh (.list (dss.map .list))
  | .od kvs => .sh (.dict (kvs.map fun p => (kD p.1, p.2)))
  | .odT (p :: r) => .sh (.dict ((p :: r).map fun p => (kTD p.1, p.2)))
  | c => c
def frz (ρ : List C) (i : Nat) : List C := match ρ[i]? with
  | some c => ρ.set i (frC c)
  | none => ρ
theorem En.frz {B : Bs} {F : Hp} {Ω : Om} {H : Hp} {σ : L2.St} {ρ : List C} (e : En K B F Ω H σ ρ) (i : Nat) : ∃ F', Gr F F' ∧ En K B F' Ω H σ (frz ρ i) := by
  unfold TL.frz
  split
  · rename_i c hc
    by_cases hu : c = .un
    · subst hu
      refine ⟨F, Gr.refl _, ?_⟩
      have z : ρ.set i C.un = ρ := by
        obtain ⟨hl, he⟩ := List.getElem?_eq_some_iff.mp hc
        rw [← he, List.set_getElem_self]
      show En K B F Ω H σ (ρ.set i C.un)
      rw [z]
      exact e
    · obtain ⟨v, A, hv, r, o, fin⟩ := e.chg (c' := frC c) hc hu
      have key : ∀ {k : D → Prop} {d0 : D}, fz c k → (∀ d, k d → d = d0) → frC c = .sh d0 → ∃ F', Gr F F' ∧ En K B F' Ω H σ (ρ.set i (frC c)) := by
        intro k d0 hz hk hf
        obtain ⟨F', d, gr, w, rd, kd, off⟩ := freeze e.wd r o hz
        cases hk d kd
        refine ⟨F', gr, fin F' Ω H [] ⟨e.ex.sub.trans gr, fun a ha => ?_, e.ex.keep, e.ex.here, e.ex.omg, e.ex.omn, w⟩ gr (fun b hb _ => ⟨off b hb, rfl, fun o h _ => h⟩) (fun _ _ h => h) (by rw [hf]; exact ⟨rd, rfl⟩) ow_nil (fun _ m => nomatch m)⟩
        have hA : a ∉ A := fun m => by
          obtain ⟨As, h1, h2, h3⟩ := e.own
          obtain ⟨v', hv', r'⟩ := h1 i c hc hu
          rw [hv] at hv'
          cases hv'
          -- the owned addresses are those of the slot
          have same : A = As i := by
            cases c with
            | un => exact absurd rfl hu
            | sh d => rw [r.2, r'.2]
            | ol ds =>
              obtain ⟨a1, vs1, rfl, rfl, _⟩ := r
              obtain ⟨a2, vs2, e2, h2', _⟩ := r'
              cases e2
              rw [h2']
            | oll ds =>
              obtain ⟨a1, vs1, as1, rfl, rfl, e1, q1, _⟩ := r
              obtain ⟨a2, vs2, as2, e2, h2', e3, q3, _⟩ := r'
              cases e2
              rw [e1] at e3
              cases e3
              rw [h2']
              have uq : ∀ {vs : List V} {dss dss' : List (List D)} {as as' : List Addr}, RLL K F H vs dss as → RLL K F H vs dss' as' → as = as' := by
                intro vs dss dss' as as' q q'
                induction q generalizing dss' as' with
                | nil => cases q'; rfl
                | cons _ _ _ ih =>
                  cases q' with
                  | cons _ _ t' => rw [ih t']
              rw [uq q1 q3]
            | od ds =>
              obtain ⟨a1, vs1, rfl, rfl, _⟩ := r
              obtain ⟨a2, vs2, e2, h2', _⟩ := r'
              cases e2
              rw [h2']
            | odT ds =>
              obtain ⟨a1, vs1, rfl, rfl, _⟩ := r
              obtain ⟨a2, vs2, e2, h2', _⟩ := r'
              cases e2
              rw [h2']
            | mo I =>
              obtain ⟨a1, rfl, _, rfl⟩ := r
              obtain ⟨a2, e2, _, h2'⟩ := r'
              rw [h2']
          rw [same] at m
          exact ha (h2 i a m).2.2.2
        rw [off a hA]
        exact e.ex.new a ha
      cases c with
      | un => exact absurd rfl hu
      | sh d => exact key (k := fun x => x = d) (d0 := d) rfl (fun _ h => h) rfl
      | ol ds => exact key (k := fun x => x = .list ds) (d0 := .list ds) rfl (fun _ h => h) rfl
      | oll ds => exact key (k := fun x => x = .list (ds.map .list)) (d0 := .list (ds.map .list)) rfl (fun _ h => h) rfl
      | od ds => exact key (k := fun x => x = .dict (ds.map fun p => (kD p.1, p.2))) (d0 := .dict (ds.map fun p => (kD p.1, p.2))) rfl (fun _ h => h) rfl
      | odT ds =>
        cases ds with
        | nil =>
          refine ⟨F, Gr.refl _, ?_⟩
          have z : ρ.set i (C.odT []) = ρ := by
            obtain ⟨hl, he⟩ := List.getElem?_eq_some_iff.mp hc
            rw [← he, List.set_getElem_self]
          show En K B F Ω H σ (ρ.set i (C.odT []))
          rw [z]
          exact e
        | cons p rr => exact key (k := fun x => x = .dict ((p :: rr).map fun p => (kTD p.1, p.2))) (d0 := .dict ((p :: rr).map fun p => (kTD p.1, p.2))) ⟨by simp, rfl⟩ (fun _ h => h) rfl
      | mo I =>
        refine ⟨F, Gr.refl _, ?_⟩
        have z : ρ.set i (C.mo I) = ρ := by
          obtain ⟨hl, he⟩ := List.getElem?_eq_some_iff.mp hc
          rw [← he, List.set_getElem_self]
        show En K B F Ω H σ (ρ.set i (C.mo I))
        rw [z]
        exact e
  · exact ⟨F, Gr.refl _, e⟩
theorem vs_frz (i : Nat) (h : VS X st t) : VS X st (fun d ρ => t d (frz ρ i)) :=
  ⟨fun B => ps_imp (h.ps B) fun De σ H ⟨F, Ω, ρ, d, en, g, k⟩ => by
    obtain ⟨F', gr, en'⟩ := en.frz i
    exact ⟨F', Ω, _, d, en', g, k.gr gr⟩⟩
end
end TL
namespace TL
open PySem PySem.Spec PyProof.Rows L2
section
variable {X : Cx} {a b e e1 e2 o : Expr} {es : List Expr} {pos pos' apos cpos : Pos} {K : Fg} {st : Stmt} {sts : List Stmt} {t u : TR}
/-! ### what one's own lists suffer -/
/-- writing at an owned address -/
theorem Ext.put {B : Bs} {F : Hp} {Ω : Om} {H : Hp} (x : Ext B.F B.Ω B.H F Ω H) {a : Addr} {o : HO} (h0 : B.H a = none) (hf : F a = none) (ho : Ω a = none) (ht : ∀ vs, o ≠ .tup vs := by intro _ z; cases z) : Ext B.F B.Ω B.H F Ω (upd H a o) where
  sub := x.sub
  new := x.new
  keep := fun b u e w => by rw [upd_ne (ne_of_none e h0)]; exact x.keep b u e w
  here := fun b e => by
    by_cases z : b = a
    · rw [z, upd_same]; simp
    · rw [upd_ne z]; exact x.here b e
  omg := x.omg
  omn := x.omn
  wd := ⟨fun b u e => by rw [upd_ne (ne_of_none e hf)]; exact x.wd.sub b u e, fun b I e => by
    have z : b ≠ a := fun z => by rw [z, ho] at e; cases e
    rw [upd_ne z]
    exact x.wd.om b I e, fun b vs e => by
    by_cases z : b = a
    · rw [z, upd_same] at e; cases e; exact absurd rfl (ht vs)
    · rw [upd_ne z] at e; exact x.wd.tp b vs e⟩
theorem En.own1 {B : Bs} {F : Hp} {Ω : Om} {H : Hp} {σ : L2.St} {ρ : List C} (e : En K B F Ω H σ ρ) {i : Nat} {ds : List D} (hc : ρ[i]? = some (.ol ds)) :
    ∃ a vs, σ[i]? = some (some (.ref a)) ∧ H a = some (.lst vs) ∧ Reps K F vs ds ∧ ∀ vs' ds', Reps K F vs' ds' → En K B F Ω (upd H a (.lst vs')) σ (ρ.set i (.ol ds')) := by
  obtain ⟨As, h1, h2, h3⟩ := e.own
  obtain ⟨v0, hv0, r0⟩ := h1 i _ hc (by simp)
  obtain ⟨v, A, hv, r, ow, fin⟩ := e.chg hc (c' := .un) (by simp)
  obtain ⟨a, vs, rfl, hA, ha, q⟩ := r0
  have ia := h2 i a (by rw [hA]; exact List.mem_cons_self)
  refine ⟨a, vs, hv0, ha, q, fun vs' ds' r' => ?_⟩
  obtain ⟨v2, A2, hv2, r2, ow2, fin2⟩ := e.chg hc (c' := .ol ds') (by simp)
  rw [hv0] at hv2
  cases hv2
  obtain ⟨a2, vs2, e2, hA2, ha2, q2⟩ := r2
  cases e2
  refine fin2 F Ω _ [a] (e.ex.put ia.2.2.2 ia.1 ia.2.1) (Gr.refl _) (fun b hb hh => ⟨rfl, rfl, fun o h _ => ?_⟩) (fun _ _ h => h) ⟨a, vs', rfl, rfl, upd_same, r'⟩ (fun c m => by rw [List.mem_singleton.mp m]; exact ⟨ia.1, ia.2.1⟩) (fun c m => .inl (by rw [hA2]; exact m))
  rw [upd_ne (fun z => hb (by rw [hA2, z]; exact List.mem_cons_self))]
  exact h
def olAt (ρ : List C) (i : Nat) (G : List D → Prop) : Prop := match ρ[i]? with
  | some (.ol ds) => G ds
  | _ => False
theorem olAt_get {ρ : List C} {i : Nat} {G : List D → Prop} (h : olAt ρ i G) : ∃ ds, ρ[i]? = some (.ol ds) ∧ G ds := by
  unfold olAt at h
  split at h
  · exact ⟨_, by assumption, h⟩
  · exact h.elim
/-- x.append(e) -/
theorem vs_append (i : Nat) {te : TC} (hv : PE X o (tVar i)) (he : VC X e te) (hbase : attributeBase o "append" X.env (eval o X.env) = eval o X.env := by rfl)
    (h2 : ((backTo cpos (starEach [e] X.env)).all (fun x => !x.fst) && ((backToKw cpos (keywordEach [] X.env)).all fun x => x.fst.isSome) && decide ([e].length + ([] : List Keyword).length + (if ([] : List Keyword).isEmpty = true then 0 else 1) < 30)) = true := by rfl)
    (hl : (apos.endLine == cpos.line) = true := by rfl) (hs : starEach [e] X.env = (false, eval e X.env) :: starEach [] X.env := by rfl) (hx : swapsWith (.Call (.Attribute o "append" apos) [e] [] cpos) none pos.line X.env = pure false := by rfl) :
    VS X (.Expr (.Call (.Attribute o "append" apos) [e] [] cpos) pos) (fun d ρ => olAt ρ i fun _ => te ρ fun c => fz c fun y => olAt ρ i fun ds => ds.length < sizeLine ∧ d.nx (ρ.set i (.ol (ds ++ [y])))) := by
  refine ⟨fun B => ps_imp (ps_expr (pe_bm PySem.F.plainAttrs_list PySem.F.slot_list_append PySem.F.type_list_append mt_append hv (pa_cons (he.vd.vc.pe B) pa_nil hs) hbase h2 hl hs) hx) fun De σ H ⟨F, Ω, ρ, d, en, g, k⟩ => ?_⟩
  obtain ⟨ds0, hc, g⟩ := olAt_get g
  obtain ⟨a, vs, hσ, ha, q, fin⟩ := en.own1 hc
  refine ⟨.ref a, hσ, .inl ⟨rfl, vs, .inl (.inl ha)⟩, F, Ω, ρ, fun c => ∃ y, c = .sh y ∧ olAt ρ i fun ds => ds.length < sizeLine ∧ d.nx (ρ.set i (.ol (ds ++ [y]))), en, ?_, fun c v F' Ω' H' A x r ow f ⟨y, hy, gy⟩ => ?_⟩
  · have m : (fun c => fz c fun x => ∃ x', C.sh x = .sh x' ∧ olAt ρ i fun ds => ds.length < sizeLine ∧ d.nx (ρ.set i (.ol (ds ++ [x'])))) = fun c => fz c fun x => olAt ρ i fun ds => ds.length < sizeLine ∧ d.nx (ρ.set i (.ol (ds ++ [x]))) := by
      funext c
      cases c <;> simp [fz]
    show te ρ fun c => fz c fun x => ∃ x', C.sh x = .sh x' ∧ olAt ρ i fun ds => ds.length < sizeLine ∧ d.nx (ρ.set i (.ol (ds ++ [x'])))
    rw [m]
    exact g
  · subst hy
    obtain ⟨ds, hc', hlen, g2⟩ := olAt_get gy
    obtain ⟨a', vs', hσ', ha', q', fin'⟩ := (en.ext x).own1 hc'
    rw [hσ] at hσ'
    cases hσ'
    exact ⟨a, vs', v, rfl, rfl, ha', by rw [q'.length]; exact hlen, k.nx σ F' Ω' _ _ x.sub (fin' (vs' ++ [v]) (ds ++ [y]) (q'.append (.cons r.1 .nil))) g2⟩
/-! ### walks -/
structure Walks (K : Fg) (B : Bs) (J : It) (F : Hp) (ds : List D) : Prop where
  stop : ∀ F' Ω H i, Gr F F' → Ext B.F B.Ω B.H F' Ω H → ds.length ≤ i → J.stop i H
  go : ∀ F' Ω H i, Gr F F' → Ext B.F B.Ω B.H F' Ω H → i < ds.length → J.go i H
  yld : ∀ F' Ω H i x H1 d, Gr F F' → Ext B.F B.Ω B.H F' Ω H → ds[i]? = some d → J.yld i H x H1 → ∃ F1, Ext F' Ω H F1 Ω H1 ∧ Rep K F1 x d
def upI (K : Fg) (B : Bs) (ti : TDs) : TI := fun σ H R => ∃ F Ω ρ G, En K B F Ω H σ ρ ∧ ti ρ G ∧ ∀ ds J F' Ω' H', Ext F Ω H F' Ω' H' → Walks K B J F' ds → G ds → R J H'
structure VI (X : Cx) (tg iter : Expr) (ti : TDs) : Prop where
  pi : ∀ B, PI X tg iter (upI X.K B ti)
theorem pi_imp {tg iter : Expr} {t t' : TI} (h : PI X tg iter t) (f : ∀ σ H R, t' σ H R → t σ H R) : PI X tg iter t' := ⟨fun pins s σ H R I w => h.run pins s σ H R I (f σ H R w)⟩
theorem pi_or {tg iter : Expr} {t t' : TI} (h : PI X tg iter t) (h' : PI X tg iter t') : PI X tg iter (fun σ H R => t σ H R ∨ t' σ H R) := ⟨fun pins s σ H R I w => w.elim (h.run pins s σ H R I) (h'.run pins s σ H R I)⟩
theorem walks_list {B : Bs} {F : Hp} {a : Addr} {vs : List V} {ds : List D} (e : F a = some (.lst vs)) (q : Reps K F vs ds) : Walks K B (Itl K a) F ds where
  stop := fun F' Ω H i g x hi => ⟨vs, .inl (.inl (x.wd.sub.lst (g _ _ e))), by rw [q.length]; exact hi⟩
  go := fun F' Ω H i g x hi => ⟨vs, vs[i]'(by rw [q.length]; exact hi), .inl (.inl (x.wd.sub.lst (g _ _ e))), by simp [q.length, hi]⟩
  yld := fun F' Ω H i x H1 d g ex hd ⟨hh, hy⟩ => by
    subst hh
    obtain ⟨v, hv, rv⟩ := q.get hd
    have := hy vs (.inl (.inl (ex.wd.sub.lst (g _ _ e))))
    rw [hv] at this
    cases this
    exact ⟨F', Ext.refl ex.wd, rv.gr g⟩
theorem walks_tup {B : Bs} {F : Hp} {a : Addr} {vs : List V} {ds : List D} (e : SqT K F a vs) (q : Reps K F vs ds) : Walks K B (Itt K a) F ds where
  stop := fun F' Ω H i g x hi => ⟨vs, x.wd.sub.sqT (g.sqT e), by rw [q.length]; exact hi⟩
  go := fun F' Ω H i g x hi => ⟨vs, vs[i]'(by rw [q.length]; exact hi), x.wd.sub.sqT (g.sqT e), by simp [q.length, hi]⟩
  yld := fun F' Ω H i x H1 d g ex hd ⟨hh, hy⟩ => by
    subst hh
    obtain ⟨v, hv, rv⟩ := q.get hd
    have := hy vs (ex.wd.sub.sqT (g.sqT e))
    rw [hv] at this
    cases this
    exact ⟨F', Ext.refl ex.wd, rv.gr g⟩
/-- over a list, a tuple -/
theorem pi_seq {l tg : Expr} {tl : TE} (hl : PE X l tl) : PI X tg l (fun σ H R => tl σ H fun x H1 => ∃ a, x = .ref a ∧ (((∃ xs, SqL X.K H1 a xs) ∧ R (Itl X.K a) H1) ∨ ((∃ xs, SqT X.K H1 a xs) ∧ R (Itt X.K a) H1))) := by
  refine ⟨fun pins s σ H R I h => ?_⟩
  refine thn (hl.run pins s σ H _ I h) fun v s1 ⟨x, H1, I1, r1, q1⟩ => ?_
  obtain ⟨a, e, q⟩ := q1
  subst e
  cases r1
  rcases q with ⟨⟨xs, hq⟩, q⟩ | ⟨⟨xs, hq⟩, q⟩
  · obtain ⟨its, rv, p, hz⟩ := I1.list hq
    refine wpAny_pyIter_list p.isList ?_
    refine ⟨s1.heap.objs.size, [s1.heap.objs.size], _, _, H1, rfl, I1.kept (t' := s1.toks) fun b o e => Heap.get?_push_of_some _ e, turn_list a _, ⟨_, Heap.get?_push_size _ rfl, rfl, rfl⟩, fun b hb => ?_, q⟩
    have e : b = s1.heap.objs.size := by simpa using hb
    subst e
    exact I1.fpOk (Nat.le_refl _) (I1.hok.fresh (Nat.le_refl _))
  · obtain ⟨its, rv, p, hz⟩ := I1.tuple hq
    refine wpAny_pyIter_tuple (show s1.heap.IsTuple a its.toArray from p) ?_
    refine ⟨s1.heap.objs.size, [s1.heap.objs.size], _, _, H1, rfl, I1.kept (t' := s1.toks) fun b o e => Heap.get?_push_of_some _ e, turn_tuple a _, ⟨_, Heap.get?_push_size _ rfl, rfl, rfl⟩, fun b hb => ?_, q⟩
    have e : b = s1.heap.objs.size := by simpa using hb
    subst e
    exact I1.fpOk (Nat.le_refl _) (I1.hok.fresh (Nat.le_refl _))
def sqC (d : D) (G : List D → Prop) : Prop := match d with
  | .list ds => G ds
  | .tuple ds => G ds
  | _ => False
/-- a data reading, its end told by an equation -/
theorem fz_eq {te : TC} {ρ : List C} {k : D → Prop} (h : te ρ fun c => fz c k) : te ρ fun c => fz c fun x => ∃ x', C.sh x = .sh x' ∧ k x' := by
  have m : (fun c => fz c fun x => ∃ x', C.sh x = .sh x' ∧ k x') = fun c => fz c k := by
    funext c
    cases c <;> simp [fz]
  rw [m]
  exact h
theorem vi_seq {tg : Expr} {te : TC} (h : VC X e te) : VI X tg e (fun ρ G => te ρ fun c => fz c fun d => sqC d G) := by
  refine ⟨fun B => pi_imp (pi_seq (h.vd.vc.pe B)) fun σ H R ⟨F, Ω, ρ, G, en, g, k⟩ => ⟨F, Ω, ρ, fun c => ∃ d, c = .sh d ∧ sqC d G, en, fz_eq g, fun c v F' Ω' H' A x r o f ⟨d, hd, gd⟩ => ?_⟩⟩
  subst hd
  obtain ⟨r, _⟩ := r
  unfold sqC at gd
  split at gd
  · cases r with
    | lst e q => exact ⟨_, rfl, .inl ⟨⟨_, .inl (.inl (x.wd.sub.lst e))⟩, k _ _ F' Ω' H' x (walks_list e q) gd⟩⟩
  · cases r with
    | tup e q => exact ⟨_, rfl, .inr ⟨⟨_, x.wd.sub.sqT (.inl (.inl e))⟩, k _ _ F' Ω' H' x (walks_tup (.inl (.inl e)) q) gd⟩⟩
  · exact gd.elim
/-- a range -/
def rngD (lo : Int) (n : Nat) : List D := (List.range n).map fun i => .int (lo + (i : Nat))
theorem walks_rng {B : Bs} {F : Hp} {lo : Int} {n : Nat} : Walks K B (Itr lo n) F (rngD lo n) where
  stop := fun F' Ω H i g x hi => show n ≤ i by simpa [rngD] using hi
  go := fun F' Ω H i g x hi => show i < n by simpa [rngD] using hi
  yld := fun F' Ω H i x H1 d g ex hd ⟨hh, hy⟩ => by
    subst hh hy
    have hi : i < n := by
      have := (List.getElem?_eq_some_iff.mp hd).1
      simpa [rngD] using this
    have e : d = .int (lo + i) := by
      have : (rngD lo n)[i]? = some (.int (lo + i)) := by simp [rngD, hi]
      rw [this] at hd
      exact (Option.some.inj hd).symm
    subst e
    exact ⟨F', Ext.refl ex.wd, .int _⟩
theorem vi_rng1 {tg : Expr} {p : Pos} {ta : TC} (ha : SE X a ta) (hg : Gl X "range") (hm : X.mg "range" = none) (hs : starEach [a] X.env = [(false, eval a X.env)] := by rfl) : VI X tg (.Call (.Name "range" p) [a] [] pos) (fun ρ G => ta ρ fun c => inC c fun j => -(2 ^ 62) ≤ j ∧ j < 2 ^ 62 ∧ G (rngD 0 j.toNat)) := by
  refine ⟨fun B => pi_imp (pi_range1 hg hm (pa_cons (ha.pe B) pa_nil hs) hs) fun σ H R ⟨F, Ω, ρ, G, en, g, k⟩ => ⟨F, Ω, ρ, _, en, g, fun c v F' Ω' H' A x r o gc => ?_⟩⟩
  unfold inC at gc
  split at gc
  · obtain ⟨r, _⟩ := r
    cases r
    exact ⟨_, rfl, gc.1, gc.2.1, k _ _ F' Ω' H' x walks_rng gc.2.2⟩
  · exact gc.elim
theorem vi_rng2 {tg : Expr} {p : Pos} {ta tb : TC} (ha : SE X a ta) (hb : SE X b tb) (hg : Gl X "range") (hm : X.mg "range" = none) (hs : starEach [a, b] X.env = [(false, eval a X.env), (false, eval b X.env)] := by rfl) (hs2 : starEach [b] X.env = [(false, eval b X.env)] := by rfl) :
    VI X tg (.Call (.Name "range" p) [a, b] [] pos) (fun ρ G => ta ρ fun c => tb ρ fun c2 => inC c fun i => inC c2 fun j => (-(2 ^ 62) ≤ i ∧ i < 2 ^ 62 ∧ -(2 ^ 62) ≤ j ∧ j < 2 ^ 62) ∧ G (rngD i (j - i).toNat)) := by
  refine ⟨fun B => pi_imp (pi_range2 hg hm (pa_cons (ha.pe B) (pa_cons (hb.pe B) pa_nil hs2) (by rw [hs, hs2])) hs hs2) fun σ H R ⟨F, Ω, ρ, G, en, g, k⟩ => ⟨F, Ω, ρ, _, en, g, fun c v F1 Ω1 H1 A1 x1 r1 o1 g1 => ⟨F1, Ω1, ρ, _, en.ext x1, g1, fun c2 v2 F2 Ω2 H2 A2 x2 r2 o2 g2 => ?_⟩⟩⟩
  unfold inC at g2
  split at g2
  · obtain ⟨r1, _⟩ := r1
    cases r1
    split at g2
    · obtain ⟨r2, _⟩ := r2
      cases r2
      exact ⟨_, _, rfl, g2.1, k _ _ F2 Ω2 H2 (x1.trans x2) walks_rng g2.2⟩
    · exact g2.elim
  · exact g2.elim
/-- a range downwards -/
def dwnD (hi : Int) (n : Nat) : List D := (List.range n).map fun i => .int (hi - (i : Nat))
theorem vi_dwn {tg : Expr} {p : Pos} {ta tb tc : TC} {c : Expr} (ha : SE X a ta) (hb : SE X b tb) (hc : SE X c tc) (hg : Gl X "range") (hm : X.mg "range" = none) (hs : starEach [a, b, c] X.env = (false, eval a X.env) :: starEach [b, c] X.env := by rfl)
    (hs2 : starEach [b, c] X.env = (false, eval b X.env) :: starEach [c] X.env := by rfl) (hs3 : starEach [c] X.env = (false, eval c X.env) :: starEach [] X.env := by rfl) (hpl : (backTo pos (starEach [b, c] X.env)).any (·.1) = false := by rfl) :
    VI X tg (.Call (.Name "range" p) [a, b, c] [] pos) (fun ρ G => ta ρ fun c1 => tb ρ fun c2 => tc ρ fun c3 => inC c1 fun i => inC c2 fun j => inC c3 fun z => z = -1 ∧ (-(2 ^ 62) ≤ i ∧ i < 2 ^ 62 ∧ -(2 ^ 62) ≤ j ∧ j < 2 ^ 62) ∧ G (dwnD i (i - j).toNat)) := by
  refine ⟨fun B => pi_imp (pi_range3 hg hm (pa_cons (ha.pe B) (pa_cons (hb.pe B) (pa_cons (hc.pe B) pa_nil hs3) hs2) hs) hs hpl) fun σ H R ⟨F, Ω, ρ, G, en, g, k⟩ => ⟨F, Ω, ρ, _, en, g, fun c v F1 Ω1 H1 A1 x1 r1 o1 g1 => ⟨F1, Ω1, ρ, _, en.ext x1, g1, fun c2 v2 F2 Ω2 H2 A2 x2 r2 o2 g2 => ⟨F2, Ω2, ρ, _, (en.ext x1).ext x2, g2, fun c3 v3 F3 Ω3 H3 A3 x3 r3 o3 g3 => ?_⟩⟩⟩⟩
  unfold inC at g3
  split at g3
  · obtain ⟨r1, _⟩ := r1
    cases r1
    split at g3
    · obtain ⟨r2, _⟩ := r2
      cases r2
      split at g3
      · obtain ⟨r3, _⟩ := r3
        cases r3
        obtain ⟨hz, hb, gg⟩ := g3
        subst hz
        rename_i i _ _ j _ _ _
        refine ⟨_, _, _, _, rfl, RgC.neg hb.1 hb.2.1 hb.2.2.1 hb.2.2.2, k _ _ F3 Ω3 H3 ((x1.trans x2).trans x3) ⟨fun F' Ω H m g x hi => (by have q : (dwnD i (i - j).toNat).length = (i - j).toNat := (by simp [dwnD]); rw [q] at hi; exact hi), fun F' Ω H m g x hi => (by have q : (dwnD i (i - j).toNat).length = (i - j).toNat := (by simp [dwnD]); rw [q] at hi; exact hi), fun F' Ω H m x H1 d g ex hd ⟨hh, hy⟩ => ?_⟩ gg⟩
        subst hh hy
        have hm : m < (i - j).toNat := by
          have := (List.getElem?_eq_some_iff.mp hd).1
          simpa [dwnD] using this
        have e : d = .int (i - m) := by
          have : (dwnD i (i - j).toNat)[m]? = some (.int (i - m)) := by simp [dwnD, hm]
          rw [this] at hd
          exact (Option.some.inj hd).symm
        subst e
        refine ⟨F', Ext.refl ex.wd, ?_⟩
        rw [show i + (m : Int) * -1 = i - m by omega]
        exact .int _
      · exact g3.elim
    · exact g3.elim
  · exact g3.elim
/-- enumerate over a list -/
def enuD : Nat → List D → List D
  | _, [] => []
  | n, d :: ds => .tuple [.int (n : Nat), d] :: enuD (n + 1) ds
theorem enuD_len : ∀ (n : Nat) (ds : List D), (enuD n ds).length = ds.length
  | _, [] => rfl
  | n, _ :: ds => congrArg (· + 1) (enuD_len (n + 1) ds)
theorem enuD_get : ∀ (n : Nat) (ds : List D) (i : Nat), (enuD n ds)[i]? = ds[i]?.map fun d => .tuple [.int ((n + i : Nat) : Int), d]
  | _, [], _ => by simp [enuD]
  | n, d :: ds, 0 => by simp [enuD]
  | n, d :: ds, i + 1 => by
    show (enuD (n + 1) ds)[i]? = ds[i]?.map _
    rw [enuD_get (n + 1) ds i, show n + 1 + i = n + (i + 1) by omega]
theorem walks_enu {B : Bs} {F : Hp} {a : Addr} {vs : List V} {ds : List D} (e : F a = some (.lst vs)) (q : Reps K F vs ds) : Walks K B (Ite K a) F (enuD 0 ds) where
  stop := fun F' Ω H i g x hi => ⟨vs, .inl (.inl (x.wd.sub.lst (g _ _ e))), by rw [q.length, ← enuD_len 0 ds]; exact hi⟩
  go := fun F' Ω H i g x hi => ⟨vs, vs[i]'(by rw [q.length, ← enuD_len 0 ds]; exact hi), .inl (.inl (x.wd.sub.lst (g _ _ e))), by
    have : i < vs.length := by rw [q.length, ← enuD_len 0 ds]; exact hi
    simp [this]⟩
  yld := fun F' Ω H i x H1 d g ex hd ⟨T, y, hx, nT, hh, hy⟩ => by
    subst hx hh
    rw [enuD_get] at hd
    cases hz : ds[i]? with
    | none => rw [hz] at hd; cases hd
    | some z =>
      rw [hz] at hd
      cases hd
      obtain ⟨v, hv, rv⟩ := q.get hz
      have := hy vs (.inl (.inl (ex.wd.sub.lst (g _ _ e))))
      rw [hv] at this
      cases this
      have x2 := Ext.laidF (o := .tup [.int (i : Nat), y]) ex.wd nT
      refine ⟨_, x2, .tup upd_same (.cons ?_ (.cons ((rv.gr g).gr x2.sub) .nil))⟩
      rw [Nat.zero_add]
      exact .int _
def lsD (d : D) (G : List D → Prop) : Prop := match d with
  | .list ds => G ds
  | _ => False
theorem vi_enu {te : TC} {elts : List Expr} {kk : Nat} {tpos p : Pos} (h : VC X e te) (hg : Gl X "enumerate") (hm : X.mg "enumerate" = none) (hs : starEach [e] X.env = [(false, eval e X.env)] := by rfl) :
    VI X (.Tuple elts kk tpos) (.Call (.Name "enumerate" p) [e] [] pos) (fun ρ G => te ρ fun c => fz c fun d => lsD d fun ds => G (enuD 0 ds)) := by
  refine ⟨fun B => pi_imp (pi_enum hg hm (pa_cons (h.vd.vc.pe B) pa_nil hs) hs) fun σ H R ⟨F, Ω, ρ, G, en, g, k⟩ => ⟨F, Ω, ρ, fun c => ∃ d, c = .sh d ∧ lsD d fun ds => G (enuD 0 ds), en, fz_eq g, fun c v F' Ω' H' A x r o f ⟨d, hd, gd⟩ => ?_⟩⟩
  subst hd
  obtain ⟨r, _⟩ := r
  unfold lsD at gd
  split at gd
  · cases r with
    | lst e q => exact ⟨_, _, rfl, .inl (.inl (x.wd.sub.lst e)), k _ _ F' Ω' H' x (walks_enu e q) gd⟩
  · exact gd.elim
/-! ### walks of a comprehension: over what is lent, too -/
def upJ (K : Fg) (B : Bs) (ti : TDs) : TI := fun σ H R => ∃ F Ω ρ G, En K B F Ω H σ ρ ∧ ti ρ G ∧ ∀ ds J F' Ω' H', Ext F Ω H F' Ω' H' → Walks K ⟨F', Ω', H'⟩ J F' ds → G ds → R J H'
structure VJ (X : Cx) (tg iter : Expr) (ti : TDs) : Prop where
  pi : ∀ B, PI X tg iter (upJ X.K B ti)
theorem Walks.low {B : Bs} {J : It} {F : Hp} {Ω : Om} {H : Hp} {ds : List D} (x : Ext B.F B.Ω B.H F Ω H) (h : Walks K B J F ds) : Walks K ⟨F, Ω, H⟩ J F ds :=
  ⟨fun F' Ω' H' i g e => h.stop F' Ω' H' i g (x.trans e), fun F' Ω' H' i g e => h.go F' Ω' H' i g (x.trans e), fun F' Ω' H' i y H1 d g e => h.yld F' Ω' H' i y H1 d g (x.trans e)⟩
theorem VI.vj {tg iter : Expr} {ti : TDs} (h : VI X tg iter ti) : VJ X tg iter ti :=
  ⟨fun B => pi_imp (h.pi B) fun σ H R ⟨F, Ω, ρ, G, en, g, k⟩ => ⟨F, Ω, ρ, G, en, g, fun ds J F' Ω' H' x w => k ds J F' Ω' H' x (w.low (en.ex.trans x))⟩⟩
theorem lsC_lent {F H : Hp} {Ω : Om} {c : C} {v : V} {A : List Addr} {ds : List D} (w : Wd F Ω H) (r : RC K F Ω H c v A) (o : Ow F Ω A) (h : lsC c = some ds) : ∃ a vs, v = .ref a ∧ H a = some (.lst vs) ∧ Reps K F vs ds ∧ Ω a = none := by
  cases c with
  | sh d =>
    cases d with
    | list es =>
      cases h
      obtain ⟨r, _⟩ := r
      cases r with
      | lst e q =>
        refine ⟨_, _, rfl, w.sub.lst e, q, ?_⟩
        cases z : Ω _ with
        | none => rfl
        | some I =>
          rw [(w.om _ I z).1] at e
          cases e
    | _ => cases h
  | ol es =>
    cases h
    obtain ⟨a, vs, rfl, rfl, e, q⟩ := r
    exact ⟨a, vs, rfl, e, q, (o a List.mem_cons_self).2⟩
  | _ => cases h
theorem walks_lent {F : Hp} {Ω : Om} {H : Hp} {a : Addr} {vs : List V} {ds : List D} (e : H a = some (.lst vs)) (q : Reps K F vs ds) (o : Ω a = none) : Walks K ⟨F, Ω, H⟩ (Itl K a) F ds where
  stop := fun F' Ω' H' i g x hi => ⟨vs, .inl (.inl (x.keep _ _ e o)), by rw [q.length]; exact hi⟩
  go := fun F' Ω' H' i g x hi => ⟨vs, vs[i]'(by rw [q.length]; exact hi), .inl (.inl (x.keep _ _ e o)), by simp [q.length, hi]⟩
  yld := fun F' Ω' H' i x H1 d g ex hd ⟨hh, hy⟩ => by
    subst hh
    obtain ⟨v, hv, rv⟩ := q.get hd
    have := hy vs (.inl (.inl (ex.keep _ _ e o)))
    rw [hv] at this
    cases this
    exact ⟨F', Ext.refl ex.wd, rv.gr g⟩
theorem walksE_lent {F : Hp} {Ω : Om} {H : Hp} {a : Addr} {vs : List V} {ds : List D} (e : H a = some (.lst vs)) (q : Reps K F vs ds) (o : Ω a = none) : Walks K ⟨F, Ω, H⟩ (Ite K a) F (enuD 0 ds) where
  stop := fun F' Ω' H' i g x hi => ⟨vs, .inl (.inl (x.keep _ _ e o)), by rw [q.length, ← enuD_len 0 ds]; exact hi⟩
  go := fun F' Ω' H' i g x hi => ⟨vs, vs[i]'(by rw [q.length, ← enuD_len 0 ds]; exact hi), .inl (.inl (x.keep _ _ e o)), by
    have : i < vs.length := by rw [q.length, ← enuD_len 0 ds]; exact hi
    simp [this]⟩
  yld := fun F' Ω' H' i x H1 d g ex hd ⟨T, y, hx, nT, hh, hy⟩ => by
    subst hx hh
    rw [enuD_get] at hd
    cases hz : ds[i]? with
    | none => rw [hz] at hd; cases hd
    | some z =>
      rw [hz] at hd
      cases hd
      obtain ⟨v, hv, rv⟩ := q.get hz
      have := hy vs (.inl (.inl (ex.keep _ _ e o)))
      rw [hv] at this
      cases this
      have x2 := Ext.laidF (o := .tup [.int (i : Nat), y]) ex.wd nT
      refine ⟨_, x2, .tup upd_same (.cons ?_ (.cons ((rv.gr g).gr x2.sub) .nil))⟩
      rw [Nat.zero_add]
      exact .int _
def sqL (c : C) (G : List D → Prop) : Prop := match c with
  | .sh (.list ds) => G ds
  | .ol ds => G ds
  | .sh (.tuple ds) => G ds
  | _ => False
theorem vj_seq {tg : Expr} {te : TC} (h : SE X e te) : VJ X tg e (fun ρ G => te ρ fun c => sqL c G) := by
  refine ⟨fun B => pi_imp (pi_seq (h.pe B)) fun σ H R ⟨F, Ω, ρ, G, en, g, k⟩ => ⟨F, Ω, ρ, _, en, g, fun c v F' Ω' H' A x r o gd => ?_⟩⟩
  unfold sqL at gd
  split at gd
  · rename_i ds
    obtain ⟨a, vs, rfl, e, q, w⟩ := lsC_lent (ds := ds) x.wd r o rfl
    exact ⟨_, rfl, .inl ⟨⟨_, .inl (.inl e)⟩, k _ _ F' Ω' H' x (walks_lent e q w) gd⟩⟩
  · rename_i ds
    obtain ⟨a, vs, rfl, e, q, w⟩ := lsC_lent (ds := ds) x.wd r o rfl
    exact ⟨_, rfl, .inl ⟨⟨_, .inl (.inl e)⟩, k _ _ F' Ω' H' x (walks_lent e q w) gd⟩⟩
  · obtain ⟨a, vs, rfl, e, _, q⟩ := tup_get x.wd r
    exact ⟨_, rfl, .inr ⟨⟨_, x.wd.sub.sqT (.inl (.inl e))⟩, k _ _ F' Ω' H' x ((walks_tup (B := ⟨F', Ω', H'⟩) (.inl (.inl e)) q)) gd⟩⟩
  · exact gd.elim
def lsL (c : C) (G : List D → Prop) : Prop := match c with
  | .sh (.list ds) => G ds
  | .ol ds => G ds
  | _ => False
theorem vj_enu {te : TC} {elts : List Expr} {kk : Nat} {tpos p : Pos} (h : SE X e te) (hg : Gl X "enumerate") (hm : X.mg "enumerate" = none) (hs : starEach [e] X.env = [(false, eval e X.env)] := by rfl) :
    VJ X (.Tuple elts kk tpos) (.Call (.Name "enumerate" p) [e] [] pos) (fun ρ G => te ρ fun c => lsL c fun ds => G (enuD 0 ds)) := by
  refine ⟨fun B => pi_imp (pi_enum hg hm (pa_cons (h.pe B) pa_nil hs) hs) fun σ H R ⟨F, Ω, ρ, G, en, g, k⟩ => ⟨F, Ω, ρ, _, en, g, fun c v F' Ω' H' A x r o gd => ?_⟩⟩
  unfold lsL at gd
  split at gd
  · rename_i ds
    obtain ⟨a, vs, rfl, e, q, w⟩ := lsC_lent (ds := ds) x.wd r o rfl
    exact ⟨_, _, rfl, .inl (.inl e), k _ _ F' Ω' H' x (walksE_lent e q w) gd⟩
  · rename_i ds
    obtain ⟨a, vs, rfl, e, q, w⟩ := lsC_lent (ds := ds) x.wd r o rfl
    exact ⟨_, _, rfl, .inl (.inl e), k _ _ F' Ω' H' x (walksE_lent e q w) gd⟩
  · exact gd.elim
/-! ### for, while -/
def sFor (ti : TDs) (g : VG') (tb : TR) : TR := fun d ρ => ti ρ fun ds => ∃ Iv : Nat → List C → Prop, Iv 0 ρ ∧ (∀ i x ρ', ds[i]? = some x → Iv i ρ' → g x ρ' fun ρ2 => tb { d with nx := Iv (i + 1), ct := Iv (i + 1), bk := d.nx } ρ2) ∧ ∀ ρ', Iv ds.length ρ' → d.nx ρ'
theorem vs_for {tg iter : Expr} {body : List Stmt} {ti : TDs} {g : VG'} {tb : TR} {S : List Nat} (hi : VI X tg iter ti) (hg : VG X tg S g) (hb : VSs X body tb) (hp : PassesOwn (model X.prog X.w) X.A X.env X.xe := by exact PassesOwn.never) (hc : X.calm = true := by rfl) (hs : ∀ x, foldedSetIterable iter X.env x = pure x := by intro _; rfl) :
    VS X (.For tg iter body [] pos) (sFor ti g tb) := by
  refine ⟨fun B => ps_imp (ps_for hp hc (hi.pi B) (hg.pg B) (hb.pss B) hs) fun De σ H ⟨F, Ω, ρ, d, en, g0, k⟩ => ⟨F, Ω, ρ, _, en, g0, fun ds J F1 Ω1 H1 x1 wk ⟨Iv, h0, h1, h2⟩ => ?_⟩⟩
  refine ⟨fun i m σ' H' => m = ds.length - i ∧ i ≤ ds.length ∧ ∃ F' Ω' ρ', Gr F1 F' ∧ En X.K B F' Ω' H' σ' ρ' ∧ Iv i ρ', ⟨ds.length, by simp, Nat.zero_le _, F1, Ω1, ρ, Gr.refl _, en.ext x1, h0⟩, ?_⟩
  rintro i m σ' H' ⟨rfl, hi, F', Ω', ρ', gr, en', iv⟩
  by_cases hlt : i < ds.length
  · refine .inr ⟨wk.go F' Ω' H' i gr en'.ex hlt, fun σ2 H2 => ∃ F2 Ω2 ρ2, Gr F1 F2 ∧ En X.K B F2 Ω2 H2 σ2 ρ2 ∧ Iv (i + 1) ρ2, fun σ2 H2 q => ⟨ds.length - (i + 1), by omega, rfl, hlt, q⟩, fun x H3 hy => ?_⟩
    obtain ⟨F3, x3, r3⟩ := wk.yld F' Ω' H' i x H3 ds[i] gr en'.ex (by simp [hlt]) hy
    have gr3 := gr.trans x3.sub
    refine ⟨F3, Ω', ρ', ds[i], _, en'.ext x3, r3, h1 i ds[i] ρ' (by simp [hlt]) iv, fun σ4 F4 Ω4 H4 ρ4 gr4 _ en4 g4 => ⟨F4, Ω4, ρ4, _, en4, g4, ?_⟩⟩
    have grx := x1.sub.trans (gr3.trans gr4)
    exact ⟨fun σ5 F5 Ω5 H5 ρ5 gr5 en5 g5 => ⟨F5, Ω5, ρ5, (gr3.trans gr4).trans gr5, en5, g5⟩, fun v F5 Ω5 H5 y gr5 => k.rt v F5 Ω5 H5 y (grx.trans gr5), fun σ5 F5 Ω5 H5 ρ5 gr5 en5 g5 => k.nx σ5 F5 Ω5 H5 ρ5 (grx.trans gr5) en5 g5,
      fun σ5 F5 Ω5 H5 ρ5 gr5 en5 g5 => ⟨F5, Ω5, ρ5, (gr3.trans gr4).trans gr5, en5, g5⟩⟩
  · have e : i = ds.length := by omega
    subst e
    exact .inl ⟨wk.stop F' Ω' H' _ gr en'.ex (Nat.le_refl _), k.nx σ' F' Ω' H' ρ' (x1.sub.trans gr) en' (h2 ρ' iv)⟩
end
end TL
namespace TL
open PySem PySem.Spec PyProof.Rows L2
theorem sz {n : Nat} (h : n ≤ 16777216) : n ≤ sizeLine := by rw [sizeLine_eq]; exact h
theorem sz' {n : Nat} (h : n < 16777216) : n < sizeLine := by rw [sizeLine_eq]; exact h
section
variable {X : Cx} {a b e e1 e2 o elt iter tg : Expr} {es ifs : List Expr} {pos pos' apos cpos : Pos} {K : Fg} {st : Stmt} {sts : List Stmt} {t u : TR}
/-! ### while -/
def sWhile (tc : TB) (tb : TR) : TR := fun d ρ => ∃ W : Nat → List C → Prop, (∃ m, W m ρ) ∧ ∀ m ρ', W m ρ' → tc ρ' fun b => if b = true then tb { d with nx := fun ρ2 => ∃ m', m' < m ∧ W m' ρ2, ct := fun ρ2 => ∃ m', m' < m ∧ W m' ρ2, bk := d.nx } ρ' else d.nx ρ'
theorem vs_while {c : Expr} {body : List Stmt} {tc : TB} {tb : TR} (hc : VB X c tc) (hb : VSs X body tb) (hp : PassesOwn (model X.prog X.w) X.A X.env X.xe := by exact PassesOwn.never) : VS X (.While c body [] pos) (sWhile tc tb) := by
  refine ⟨fun B => ps_imp (ps_while hp (hc.pt B) (hb.pss B)) fun De σ H ⟨F, Ω, ρ, d, en, ⟨W, ⟨m0, h0⟩, h1⟩, k⟩ => ?_⟩
  refine ⟨fun m σ' H' => ∃ F' Ω' ρ', Gr F F' ∧ En X.K B F' Ω' H' σ' ρ' ∧ W m ρ', ⟨m0, F, Ω, ρ, Gr.refl _, en, h0⟩, ?_⟩
  rintro m σ' H' ⟨F', Ω', ρ', gr, en', w⟩
  refine ⟨F', Ω', ρ', _, en', h1 m ρ' w, fun b F2 Ω2 H2 x2 g2 => ?_⟩
  have gr2 := gr.trans x2.sub
  cases b with
  | true =>
    refine iteT ⟨fun σ3 H3 => ∃ m', m' < m ∧ ∃ F' Ω' ρ', Gr F F' ∧ En X.K B F' Ω' H3 σ3 ρ' ∧ W m' ρ', fun σ3 H3 q => q, F2, Ω2, ρ', _, en'.ext x2, by simpa using g2, ?_⟩
    exact ⟨fun σ5 F5 Ω5 H5 ρ5 gr5 en5 ⟨m', hm, w5⟩ => ⟨m', hm, F5, Ω5, ρ5, gr2.trans gr5, en5, w5⟩, fun v F5 Ω5 H5 y gr5 => k.rt v F5 Ω5 H5 y (gr2.trans gr5), fun σ5 F5 Ω5 H5 ρ5 gr5 en5 g5 => k.nx σ5 F5 Ω5 H5 ρ5 (gr2.trans gr5) en5 g5,
      fun σ5 F5 Ω5 H5 ρ5 gr5 en5 ⟨m', hm, w5⟩ => ⟨m', hm, F5, Ω5, ρ5, gr2.trans gr5, en5, w5⟩⟩
  | false => exact iteF (k.nx σ' F2 Ω2 H2 ρ' gr2 (en'.ext x2) (by simpa using g2))
/-! ### comprehensions -/
def wipeC (ρ : List C) : List Nat → List C
  | [] => ρ
  | v :: vs => (wipeC ρ vs).set v .un
theorem En.wipe1 {B : Bs} {F : Hp} {Ω : Om} {H : Hp} {σ : L2.St} {ρ : List C} (e : En K B F Ω H σ ρ) (v : Nat) : En K B F Ω H (σ.set v none) (ρ.set v .un) := by
  obtain ⟨As, h1, h2, h3⟩ := e.own
  refine ⟨e.ex, by rw [List.length_set, List.length_set]; exact e.len, As, fun i c hc hn => ?_, h2, h3⟩
  by_cases hi : i = v
  · subst hi
    have hl := (List.getElem?_eq_some_iff.mp hc).1
    rw [List.length_set] at hl
    rw [List.getElem?_set_self hl] at hc
    cases hc
    exact absurd rfl hn
  · rw [List.getElem?_set_ne (Ne.symm hi)] at hc
    rw [List.getElem?_set_ne (Ne.symm hi)]
    exact h1 i c hc hn
theorem En.wipe {B : Bs} {F : Hp} {Ω : Om} {H : Hp} {σ : L2.St} {ρ : List C} (e : En K B F Ω H σ ρ) : ∀ vs : List Nat, En K B F Ω H (L2.wipe σ vs) (wipeC ρ vs)
  | [] => e
  | v :: vs => (En.wipe e vs).wipe1 v
theorem wipe_get {σ : L2.St} {i : Nat} : ∀ {vs : List Nat}, (L2.wipe σ vs)[i]? = if i ∈ vs then (if i < σ.length then some none else none) else σ[i]?
  | [] => by simp [L2.wipe]
  | v :: vs => by
    unfold L2.wipe
    by_cases hi : v = i
    · subst hi
      rw [if_pos List.mem_cons_self]
      by_cases hl : v < σ.length
      · rw [if_pos hl, List.getElem?_set_self (by rw [wipe_length]; exact hl)]
      · rw [if_neg hl, List.getElem?_eq_none]
        rw [List.length_set, wipe_length]
        omega
    · rw [List.getElem?_set_ne hi, wipe_get]
      by_cases hm : i ∈ vs
      · rw [if_pos hm, if_pos (List.mem_cons_of_mem _ hm)]
      · rw [if_neg hm, if_neg (by simp [hm, Ne.symm hi])]
theorem wipe_chg {σ σ2 : L2.St} {S vs : List Nat} (h : Chg S (L2.wipe σ vs) σ2) (hs : ∀ i ∈ S, i ∈ vs) : L2.wipe σ2 vs = L2.wipe σ vs := by
  apply List.ext_getElem?
  intro i
  have hl : σ2.length = σ.length := h.1.trans (wipe_length σ vs)
  rw [wipe_get, wipe_get]
  by_cases hm : i ∈ vs
  · rw [if_pos hm, if_pos hm, hl]
  · rw [if_neg hm, if_neg hm, h.2 i (fun m => hm (hs i m)), wipe_get, if_neg hm]
/-- what a comprehension gathers -/
def lcRun (g : VG') (tt : TB) (te : TC) (ρ : List C) : List D → (List D → Prop) → Prop
  | [], k => k []
  | x :: r, k => g x ρ fun ρ1 => tt ρ1 fun b => if b = true then te ρ1 fun c => fz c fun y => lcRun g tt te ρ r fun ys => k (y :: ys) else lcRun g tt te ρ r k
structure VTs (X : Cx) (ifs : List Expr) (tt : TB) : Prop where
  pts : ∀ B, PTs X ifs (upB X.K B tt)
theorem pts_imp {t t' : TT} (h : PTs X ifs t) (f : ∀ σ H Q, t' σ H Q → t σ H Q) : PTs X ifs t' := ⟨fun pins s σ H Q I w => h.run pins s σ H Q I (f σ H Q w)⟩
theorem vts_nil : VTs X [] (fun _ G => G true) := ⟨fun B => pts_imp pts_nil fun σ H Q ⟨F, Ω, ρ, G, en, g, k⟩ => k true F Ω H (Ext.refl en.wd) g⟩
theorem vts_one {c : Expr} {t : TB} (h : VB X c t) : VTs X [c] t := ⟨fun B => pts_one (h.pt B)⟩
def cLc (ti : TDs) (g : VG') (tt : TB) (te : TC) (vs : List Nat) : TC := fun ρ G => ti ρ fun ds => ds.length ≤ sizeLine ∧ lcRun g tt te (wipeC ρ vs) ds fun ys => G (.ol ys)
theorem lc_up {B : Bs} {ti : TDs} {g : VG'} {tt : TB} {te : TC} {vs S : List Nat} (hS : ∀ i ∈ S, i ∈ vs) {σ : L2.St} {H : Hp} {Q : VK} (h : upC K B (cLc ti g tt te vs) σ H Q) :
    tLc (upJ K B ti) (upN K B S g) (upB K B tt) (upC K B fun ρ G => te ρ fun c => fz c fun d => G (.sh d)) vs σ H Q := by
  obtain ⟨F, Ω, ρ, G, en, g0, k⟩ := h
  refine ⟨F, Ω, ρ, _, en, g0, fun ds J F1 Ω1 H1 x1 wk ⟨hz, run⟩ D nD => ?_⟩
  have w1 := x1.wd
  have fD : F1 D = none := w1.sub.none nD
  have oD : Ω1 D = none := w1.om_none nD
  refine ⟨fun i m H' => m = ds.length - i ∧ i ≤ ds.length ∧ ∃ F' Ω' acc ys, Ext F1 Ω1 H1 F' Ω' H' ∧ F' D = none ∧ Ω' D = none ∧ H' D = some (.lst acc) ∧ acc.length ≤ i ∧ Reps K F' acc ys ∧ lcRun g tt te (wipeC ρ vs) (ds.drop i) fun zs => G (.ol (ys ++ zs)), ⟨ds.length, by simp, Nat.zero_le _, F1, Ω1, [], [], Ext.laid w1 nD, fD, oD, upd_same, Nat.le_refl _, .nil, by simpa using run⟩, ?_⟩
  rintro i m H' ⟨rfl, hi, F', Ω', acc, ys, x', f', o', hD, hl, q, run'⟩
  have en' := (en.ext x1).ext x'
  by_cases hlt : i < ds.length
  · refine .inr ⟨wk.go F' Ω' H' i x'.sub x' hlt, fun H3 => ∃ F' Ω' acc ys, Ext F1 Ω1 H1 F' Ω' H3 ∧ F' D = none ∧ Ω' D = none ∧ H3 D = some (.lst acc) ∧ acc.length ≤ i + 1 ∧ Reps K F' acc ys ∧ lcRun g tt te (wipeC ρ vs) (ds.drop (i + 1)) fun zs => G (.ol (ys ++ zs)), fun H3 q3 => ⟨ds.length - (i + 1), by omega, rfl, hlt, q3⟩, fun x H3 hy => ?_⟩
    obtain ⟨F3, x3, r3⟩ := wk.yld F' Ω' H' i x H3 ds[i] x'.sub x' (by simp [hlt]) hy
    rw [List.drop_eq_getElem_cons hlt] at run'
    have nz : H' D ≠ none := by rw [hD]; simp
    refine ⟨F3, Ω', wipeC ρ vs, ds[i], _, (en'.ext x3).wipe vs, r3, run', fun σ4 ρ4 ch4 en4 g4 => ⟨wipe_chg ch4 hS, ?_⟩⟩
    refine ⟨F3, Ω', ρ4, _, en4, g4, fun b F5 Ω5 H5 x5 g5 => ?_⟩
    have xx := x'.trans (x3.trans x5)
    have d5 : ∀ {F6 : Hp} {Ω6 : Om} {H6 : Hp}, Ext F' Ω' H' F6 Ω6 H6 → F6 D = none ∧ Ω6 D = none ∧ H6 D = some (.lst acc) := fun x6 => ⟨(x6.new D nz).trans f', (x6.omn D nz).trans o', x6.keep D _ hD o'⟩
    cases b with
    | false =>
      obtain ⟨a1, a2, a3⟩ := d5 (x3.trans x5)
      exact iteF ⟨F5, Ω5, acc, ys, xx, a1, a2, a3, by omega, q.gr (x3.trans x5).sub, by simpa using g5⟩
    | true =>
      refine iteT ⟨F5, Ω5, ρ4, fun c => ∃ y, c = .sh y ∧ lcRun g tt te (wipeC ρ vs) (ds.drop (i + 1)) fun zs => G (.ol (ys ++ y :: zs)), en4.ext x5, fz_eq (k := fun y => lcRun g tt te (wipeC ρ vs) (ds.drop (i + 1)) fun zs => G (.ol (ys ++ y :: zs))) (by simpa using g5), fun c v F6 Ω6 H6 A6 x6 r6 o6 f6 ⟨y, hy, gy⟩ => ?_⟩
      subst hy
      obtain ⟨a1, a2, a3⟩ := d5 ((x3.trans x5).trans x6)
      refine ⟨acc, a3, Nat.lt_of_lt_of_le (Nat.lt_of_le_of_lt hl hlt) hz, F6, Ω6, acc ++ [v], ys ++ [y], ?_, a1, a2, upd_same, by simp; omega, (q.gr ((x3.trans x5).trans x6).sub).append (.cons r6.1 .nil), ?_⟩
      · have z := Ext.put (B := ⟨F1, Ω1, H1⟩) (o := .lst (acc ++ [v])) (xx.trans x6) nD a1 a2
        exact z
      · have m : (fun zs => G (.ol (ys ++ [y] ++ zs))) = fun zs => G (.ol (ys ++ y :: zs)) := by
          funext zs
          rw [List.append_assoc]
          rfl
        rw [m]
        exact gy
  · have e : i = ds.length := by omega
    subst e
    rw [List.drop_length] at run'
    refine .inl ⟨wk.stop F' Ω' H' _ x'.sub x' (Nat.le_refl _), k (.ol ys) _ F' Ω' H' [D] (x1.trans x') ⟨D, acc, rfl, rfl, hD, q⟩ (fun c m => by rw [List.mem_singleton.mp m]; exact ⟨f', o'⟩) (fun c m => by rw [List.mem_singleton.mp m]; exact x1.free nD) ?_⟩
    simpa [lcRun] using run'
theorem vc_lc {scope : Scope} {own : List (Str × Nat)} {ti : TDs} {g : VG'} {tt : TB} {te : TC} {S : List Nat} (hN : X.N.Nodup) (hi : VJ X tg iter ti) (ok : blkC X.N X.env.scope scope own = true)
    (hg : ∀ (s : Shared) (H : Hp) (C : Addr) (cl : List (Str × Addr)) (fp : List Addr), VN (X.blk s H scope (compEnvC scope cl C X.env) fp) tg S g)
    (ht : ∀ (s : Shared) (H : Hp) (C : Addr) (cl : List (Str × Addr)) (fp : List Addr), VTs (X.blk s H scope (compEnvC scope cl C X.env) fp) ifs tt)
    (he : ∀ (s : Shared) (H : Hp) (C : Addr) (cl : List (Str × Addr)) (fp : List Addr), VC (X.blk s H scope (compEnvC scope cl C X.env) fp) elt te)
    (hS : ∀ i ∈ S, i ∈ own.map (·.2) := by decide) (hc : X.calm = true := by rfl) (hs : ∀ x, foldedSetIterable iter X.env x = pure x := by intro _; rfl) :
    VC X (.ListComp elt [⟨tg, iter, ifs, 0⟩] scope pos) (cLc ti g tt te (own.map (·.2))) :=
  ⟨fun B => pe_imp (pe_lc hc hN (hi.pi B) (blkOk_by ok) (fun s H C cl fp => (hg s H C cl fp).pg B) (fun s H C cl fp => (ht s H C cl fp).pts B) (fun s H C cl fp => (he s H C cl fp).vd.vc.pe B) hs) fun σ H Q h => lc_up hS h⟩
theorem vs_setLc {n : Nat} {y : Str} {py spos : Pos} {scope : Scope} {own : List (Str × Nat)} {ti : TDs} {g : VG'} {tt : TB} {te : TC} {S : List Nat} (hN : X.N.Nodup) (hy : X.N[n]? = some y) (hyl : X.env.scope.names.lookup y = some .local)
    (hsw : swapsWith (.ListComp elt [⟨tg, iter, ifs, 0⟩] scope pos) (some (.Name y py)) spos.line X.env = pure true) (hi : VJ X tg iter ti) (ok : blkC X.N X.env.scope scope own = true)
    (hg : ∀ (s : Shared) (H : Hp) (C : Addr) (cl : List (Str × Addr)) (fp : List Addr), VN (X.blk s H scope (compEnvC scope cl C X.env) fp) tg S g)
    (ht : ∀ (s : Shared) (H : Hp) (C : Addr) (cl : List (Str × Addr)) (fp : List Addr), VTs (X.blk s H scope (compEnvC scope cl C X.env) fp) ifs tt)
    (he : ∀ (s : Shared) (H : Hp) (C : Addr) (cl : List (Str × Addr)) (fp : List Addr), VC (X.blk s H scope (compEnvC scope cl C X.env) fp) elt te)
    (hS : ∀ i ∈ S, i ∈ own.map (·.2) := by decide) (hc : X.calm = true := by rfl) (hs : ∀ x, foldedSetIterable iter X.env x = pure x := by intro _; rfl) :
    VS X (.Assign [.Name y py] (.ListComp elt [⟨tg, iter, ifs, 0⟩] scope pos) spos) (fun d ρ => cLc ti g tt te (own.map (·.2)) ρ fun c => d.nx (ρ.set n c)) :=
  ⟨fun B => ps_imp (ps_setLc hc hN hy hyl hsw (hi.pi B) (blkOk_by ok) (fun s H C cl fp => (hg s H C cl fp).pg B) (fun s H C cl fp => (ht s H C cl fp).pts B) (fun s H C cl fp => (he s H C cl fp).vd.vc.pe B) hs) fun De σ H ⟨F, Ω, ρ, d, en, g0, k⟩ =>
    lc_up hS ⟨F, Ω, ρ, _, en, g0, fun c v F' Ω' H' A x r o f gc => k.nx _ F' Ω' H' _ x.sub (en.set x r o f n) gc⟩⟩
/-! ### defs -/
theorem RCs.length {F : Hp} {Ω : Om} {H : Hp} : ∀ {cs : List C} {vs : List V}, RCs K F Ω H cs vs → cs.length = vs.length
  | [], [], _ => rfl
  | _ :: _, _ :: _, ⟨_, _, t⟩ => congrArg (· + 1) (RCs.length t)
theorem RCs.get {F : Hp} {Ω : Om} {H : Hp} : ∀ {cs : List C} {vs : List V} {i : Nat} {c : C}, RCs K F Ω H cs vs → cs[i]? = some c → ∃ v, vs[i]? = some v ∧ RC K F Ω H c v []
  | [], [], _, _, _, e => by simp at e
  | _ :: _, _ :: _, 0, _, ⟨_, r, _⟩, e => by simp at e; subst e; exact ⟨_, rfl, r⟩
  | _ :: _, _ :: _, i + 1, _, ⟨_, _, t⟩, e => by
    obtain ⟨v, h1, h2⟩ := RCs.get (i := i) t (by simpa using e)
    exact ⟨v, by simpa using h1, h2⟩
def stC (N : List Str) (cs : List C) : List C := cs ++ List.replicate (N.length - cs.length) .un
theorem start_en {N : List Str} {F : Hp} {Ω : Om} {H : Hp} {cs : List C} {vs : List V} (w : Wd F Ω H) (r : RCs K F Ω H cs vs) : En K ⟨F, Ω, H⟩ F Ω H (L2.start N vs) (stC N cs) := by
  have hl := r.length
  refine ⟨Ext.refl w, by simp [stC, L2.start, hl], fun _ => [], fun i c hc hn => ?_, fun i a (m : a ∈ ([] : List Addr)) => (nomatch m), fun i j _ a (m : a ∈ ([] : List Addr)) => (nomatch m)⟩
  unfold stC at hc
  unfold L2.start
  by_cases hi : i < cs.length
  · rw [List.getElem?_append_left hi] at hc
    obtain ⟨v, hv, rv⟩ := r.get hc
    refine ⟨v, ?_, rv⟩
    rw [List.getElem?_append_left (by simpa [← hl] using hi), List.getElem?_map, hv]
    rfl
  · rw [List.getElem?_append_right (by omega), List.getElem?_replicate] at hc
    split at hc
    · cases hc; exact absurd rfl hn
    · cases hc
theorem fun_ok {P : Program} {w : World} {mg : Str → Option Value} {base : Heap} {x qual : Str} {f : Addr} {fd : FuncData} {N ps : List Str} {k : Nat} {fT : Prom} (F : Fun K x qual st f fd) (S : FnScope N ps (defScope st)) (len : ∀ cs Q, fT cs Q → cs.length = ps.length)
    (hbody : ∀ (cdv : Value) (A : Around) (outer : List Env) (s : Shared) (H : Hp) (E : XK), Room k (A.deeper (envOfC qual (defScope st) s.heap.objs.size f cdv)) →
      ∃ tr, VSs (cxOf CX0 P w K mg base N qual (defScope st) f cdv A outer s H E).nox (defBody st) tr ∧ ∀ cs Q, fT cs Q → tr ⟨fun _ => Q .none, Q, fun _ => False, fun _ => False⟩ (stC N cs)) : FnOk P w K mg base CX0 (k + 1) f fd ps (spT K fT) := by
  refine F.ok S (fun vs H Q E ⟨F0, Ω, cs, G, w, r, h, _⟩ => by rw [← r.length]; exact len cs G h) (fun cdv A outer s H vs Q E hr h => ?_)
  obtain ⟨F0, Ω, cs, G, w, r, h, kk⟩ := h
  obtain ⟨tr, hv, hp⟩ := hbody cdv A outer s H E hr
  refine ⟨_, hv.pss ⟨F0, Ω, H⟩, F0, Ω, _, _, start_en w r, hp cs G h, ⟨fun σ' F' Ω' H' ρ' gr en g => kk .none .non F' Ω' H' en.ex .non g, fun v F' Ω' H' y gr ex ry g => kk y v F' Ω' H' ex ry g, fun _ _ _ _ _ _ _ z => z.elim, fun _ _ _ _ _ _ _ z => z.elim⟩⟩
end
end TL
namespace TL
open PySem PySem.Spec PyProof.Rows L2
/-- a def of the text, as it stands behind the top -/
def Df (K : Fg) (mg : Str → Option Value) (x : String) (st : Stmt) (ps : List Str) : Prop := ∃ f fd, Fun K x x st f fd ∧ mg x = some (.ref f) ∧ Binds K fd ps []
/-- a def that keeps a promise, as a caller needs it -/
structure CalR (P : Program) (w : World) (K : Fg) (mg : Str → Option Value) (base : Heap) (x : Str) (k : Nat) (ps : List Str) (sp : Sp) : Prop where
  ex : ∃ f fd, FnOk P w K mg base CX0 k f fd ps sp ∧ mg x = some (.ref f) ∧ PySem.W.keepIn K (.ref f) = true ∧ Binds K fd ps []
abbrev Cal (P : Program) (w : World) (K : Fg) (mg : Str → Option Value) (base : Heap) (x : Str) (k : Nat) (ps : List Str) (fT : Prom) : Prop := CalR P w K mg base x k ps (spT K fT)
theorem CalR.mono {P : Program} {w : World} {K : Fg} {mg : Str → Option Value} {base : Heap} {x : Str} {k j : Nat} {ps : List Str} {sp : Sp} (c : CalR P w K mg base x k ps sp) (h : k ≤ j) : CalR P w K mg base x j ps sp :=
  ⟨let ⟨f, fd, F, m, kp, b⟩ := c.ex; ⟨f, fd, F.mono h, m, kp, b⟩⟩
theorem CalR.imp {P : Program} {w : World} {K : Fg} {mg : Str → Option Value} {base : Heap} {x : Str} {k : Nat} {ps : List Str} {sp sp' : Sp} (c : CalR P w K mg base x k ps sp) (h : ∀ vs H Q E, sp' vs H Q E → sp vs H Q E) : CalR P w K mg base x k ps sp' :=
  ⟨let ⟨f, fd, F, m, kp, b⟩ := c.ex; ⟨f, fd, F.imp h, m, kp, b⟩⟩
section
variable {X : Cx} {a b e : Expr} {es : List Expr} {pos : Pos} {K : Fg}
theorem vc_cal {k : Nat} {ps : List Str} {fT : Prom} {x : Str} {p : Pos} {tl : TL} (c : Cal X.prog X.w X.K X.mg X.base x k ps fT) (hr : Room k X.A) (ha : VA X (e :: es) tl) (hg : Gl X x := by rfl) (hdb : (x == ("__debug__" : Str)) = false := by decide)
    (he : starEach (e :: es) X.env = (false, eval e X.env) :: starEach es X.env := by rfl) (hpl : (backTo pos (starEach es X.env)).any (·.1) = false := by rfl) : VC X (.Call (.Name x p) (e :: es) [] pos) (fun ρ G => tl ρ fun cs => fT cs fun d => G (.sh d)) :=
  let ⟨_, _, F, m, kp, b⟩ := c.ex; vc_call (CX := CX0) F hr hg m kp b ha hdb he hpl
theorem vc_cal0 {k : Nat} {ps : List Str} {fT : Prom} {x : Str} {p : Pos} (c : Cal X.prog X.w X.K X.mg X.base x k ps fT) (hr : Room k X.A) (hg : Gl X x := by rfl) (hdb : (x == ("__debug__" : Str)) = false := by decide) : VC X (.Call (.Name x p) [] [] pos) (fun ρ G => fT [] fun d => G (.sh d)) :=
  let ⟨_, _, F, m, kp, b⟩ := c.ex; vc_call0 F hr hg m kp b hdb
/-- the same, by the layer below -/
theorem pe_cal {k : Nat} {ps : List Str} {sp : Sp} {x : Str} {p : Pos} {t : TA} (c : CalR X.prog X.w X.K X.mg X.base x k ps sp) (hr : Room k X.A) (ha : PA X (e :: es) t) (hg : Gl X x := by rfl) (hdb : (x == ("__debug__" : Str)) = false := by decide)
    (he : starEach (e :: es) X.env = (false, eval e X.env) :: starEach es X.env := by rfl) (hpl : (backTo pos (starEach es X.env)).any (·.1) = false := by rfl) : PE X (.Call (.Name x p) (e :: es) [] pos) (tCall sp [] E0 t) :=
  let ⟨_, _, F, m, kp, b⟩ := c.ex; pe_call F hr hg m kp b .nil pass0 ha hdb he hpl
end
section
variable {P : Program} {w : World} {K : Fg} {mg : Str → Option Value} {base : Heap}
theorem cal_ok {x : String} {st : Stmt} {N ps : List Str} {k : Nat} {fT : Prom} (D : Df K mg x st ps) (S : FnScope N ps (defScope st)) (len : ∀ cs Q, fT cs Q → cs.length = ps.length)
    (hbody : ∀ (f : Addr) (cdv : Value) (A : Around) (outer : List Env) (s : Shared) (H : Hp) (E : XK), Room k (A.deeper (envOfC x (defScope st) s.heap.objs.size f cdv)) →
      ∃ tr, VSs (cxOf CX0 P w K mg base N x (defScope st) f cdv A outer s H E).nox (defBody st) tr ∧ ∀ cs Q, fT cs Q → tr ⟨fun _ => Q .none, Q, fun _ => False, fun _ => False⟩ (stC N cs)) : Cal P w K mg base x (k + 1) ps fT :=
  let ⟨f, fd, F, m, b⟩ := D; ⟨f, fd, fun_ok F S len (hbody f), m, F.kp, b⟩
/-- .. by the layer below -/
theorem calR_ok {x : String} {st : Stmt} {N ps : List Str} {k : Nat} {sp : Sp} (D : Df K mg x st ps) (S : FnScope N ps (defScope st)) (len : ∀ vs H Q E, sp vs H Q E → vs.length = ps.length)
    (hbody : ∀ (f : Addr) (cdv : Value) (A : Around) (outer : List Env) (s : Shared) (H : Hp) (vs : List V) (Q : VK) (E : XK), Room k (A.deeper (envOfC x (defScope st) s.heap.objs.size f cdv)) → sp vs H Q E →
      ∃ t, PSs (cxOf CX0 P w K mg base N x (defScope st) f cdv A outer s H E).nox (defBody st) t ∧ t { nx := fun _ H' => Q .non H', rt := Q } (L2.start N vs) H) : CalR P w K mg base x (k + 1) ps sp :=
  let ⟨f, fd, F, m, b⟩ := D; ⟨f, fd, F.ok S len (hbody f), m, F.kp, b⟩
theorem cal_false {x : String} {st : Stmt} {ps : List Str} {fT : Prom} (D : Df K mg x st ps) (h : ∀ cs Q, ¬ fT cs Q) : Cal P w K mg base x 0 ps fT :=
  let ⟨f, fd, F, m, b⟩ := D; ⟨f, fd, ⟨fun _ _ _ _ ⟨_, _, cs, G, _, _, q, _⟩ => (h cs G q).elim, fun _ _ _ _ _ _ _ _ _ _ _ _ _ ⟨_, _, cs, G, _, _, q, _⟩ => (h cs G q).elim⟩, m, F.kp, b⟩
theorem df_mk {x : String} {st : Stmt} {ps : List Str} {f : Addr} {oc : Value} {od an : Option Addr} {osl : Array (Option Value)} {kV doc pm cdv ct : Value} (a : mg x = some (.ref f)) (l : K.lookup f = some ⟨oc, od, .func (PySem.W.fnOf x x (defArgs st) (defBody st) (defScope st) .none kV doc pm an cdv ct), osl⟩)
    (c : PySem.W.codeIn K cdv x = true) (k : PySem.W.keepIn K (.ref f) = true) (hb : ∀ us : List Value, us.length = ps.length → bindArgs (PySem.W.fnOf x x (defArgs st) (defBody st) (defScope st) .none kV doc pm an cdv ct) ⟨us, []⟩ = pure (ps.zip us)) : Df K mg x st ps :=
  ⟨f, _, fun_mk l c k, a, .all hb⟩
end
/-! ### the shared changing things -/
theorem Ext.mo {F : Hp} {Ω : Om} {H : Hp} (w : Wd F Ω H) {a : Addr} {I : MI} {o : HO} (h : Ω a = some I) (i : I F o) (ht : ∀ vs, o ≠ .tup vs := by intro _ z; cases z) : Ext F Ω H F Ω (upd H a o) := by
  obtain ⟨h1, ⟨u, hu, _⟩, m⟩ := w.om a I h
  refine ⟨Gr.refl _, fun _ _ => rfl, fun b v e z => ?_, fun b e => ?_, fun _ _ h => h, fun _ _ => rfl, ⟨fun b v e => ?_, fun b J e => ?_, fun b vs e => ?_⟩⟩
  · rw [upd_ne (fun q => by rw [q, h] at z; cases z)]; exact e
  · by_cases z : b = a
    · rw [z, upd_same]; simp
    · rw [upd_ne z]; exact e
  · rw [upd_ne (fun q => by rw [q, h1] at e; cases e)]; exact w.sub b v e
  · by_cases z : b = a
    · subst z
      rw [h] at e
      cases e
      exact ⟨h1, ⟨o, upd_same, i⟩, m⟩
    · rw [upd_ne z]; exact w.om b J e
  · by_cases z : b = a
    · rw [z, upd_same] at e; cases e; exact absurd rfl (ht vs)
    · rw [upd_ne z] at e; exact w.tp b vs e
/-- the pool: the script, a place, a number, fills -/
def PoolI (K : Fg) (sa : Addr) : MI := fun F o => ∃ (p1 p2 p3 : Int) (ns : List Int), o = .lst [.ref sa, .int p1, .int p2, .int p3] ∧ ns.length ≤ 63 ∧ SqL K F sa (ns.map V.int)
theorem Gr.sqL {K : Fg} {F F' : Hp} (g : Gr F F') {a : Addr} {vs : List V} (h : SqL K F a vs) : SqL K F' a vs := by
  rcases h with (h | ⟨o, h⟩) | h
  · exact .inl (.inl (g _ _ h))
  · exact .inl (.inr ⟨o, g _ _ h⟩)
  · exact .inr h
theorem Sub.sqL {K : Fg} {F H : Hp} (s : Sub F H) {a : Addr} {vs : List V} (h : SqL K F a vs) : SqL K H a vs := by
  rcases h with (h | ⟨o, h⟩) | h
  · exact .inl (s.rd h)
  · rcases s a _ h with h | ⟨z, _⟩
    · exact .inl (.inr ⟨o, h⟩)
    · cases z
  · exact .inr h
theorem pool_mono (K : Fg) (sa : Addr) : ∀ F1 F2 o, Gr F1 F2 → PoolI K sa F1 o → PoolI K sa F2 o := fun F1 F2 o g ⟨p1, p2, p3, ns, e, h, q⟩ => ⟨p1, p2, p3, ns, e, h, g.sqL q⟩
/-! promises of the drawing defs -/
def spMixed : Sp := fun vs H Q _ => ∃ n p : Int, vs = [.int n, .int p] ∧ ∀ r : Int, Q (.int r) H
def spRest (K : Fg) : Sp := fun vs H Q _ => ∃ (sa : Addr) (p f : Int) (ns : List Int), vs = [.ref sa, .int p, .int f] ∧ SqL K H sa (ns.map V.int) ∧ ns.length ≤ 63 ∧ ∀ r : Int, Q (.int r) H
def spPool (K : Fg) : Sp := fun vs H Q _ => ∃ (sa : Addr) (ns : List Int), vs = [.ref sa] ∧ SqL K H sa (ns.map V.int) ∧ ns.length ≤ 63 ∧ ∀ (r : Int) p, H p = none → Q (.ref p) (upd H p (.lst [.ref sa, .int 0, .int r, .int 0]))
def spDraw (K : Fg) : Sp := fun vs H Q _ => ∃ (a sa : Addr) (l p1 p2 p3 : Int) (ns : List Int), vs = [.ref a, .int l] ∧ H a = some (.lst [.ref sa, .int p1, .int p2, .int p3]) ∧ SqL K H sa (ns.map V.int) ∧ ns.length ≤ 63 ∧ 0 < l ∧ l < 1073741824 ∧
  ∀ v p2' p3' : Int, 0 ≤ v → v < l → Q (.int v) (upd H a (.lst [.ref sa, .int p1, .int p2', .int p3']))
def spNext (K : Fg) : Sp := fun vs H Q _ => ∃ (a sa : Addr) (p1 p2 p3 : Int) (ns : List Int), vs = [.ref a] ∧ H a = some (.lst [.ref sa, .int p1, .int p2, .int p3]) ∧ SqL K H sa (ns.map V.int) ∧ ns.length ≤ 63 ∧
  ∀ p1' p2' p3' : Int, Q .non (upd H a (.lst [.ref sa, .int p1', .int p2', .int p3']))
def pDraw (K : Fg) : Prom := fun cs Q => ∃ (sa : Addr) (l : Int), cs = [.mo (PoolI K sa), .sh (.int l)] ∧ 0 < l ∧ l < 1073741824 ∧ ∀ v : Int, 0 ≤ v → v < l → Q (.int v)
def pNext (K : Fg) : Prom := fun cs Q => ∃ sa : Addr, cs = [.mo (PoolI K sa)] ∧ Q .none
/-- the script stays where a pool is written -/
theorem sqL_upd {K : Fg} {H : Hp} {a sa : Addr} {ns : List Int} {p1 p2 p3 : V} {o : HO} (h : SqL K H sa (ns.map V.int)) (hH : H a = some (.lst [.ref sa, p1, p2, p3])) : SqL K (upd H a o) sa (ns.map V.int) := by
  rcases h with (h | ⟨z, h⟩) | h
  · have ne : sa ≠ a := fun e => by
      rw [e, hH] at h
      cases ns with
      | nil => cases h
      | cons n r => cases h
    exact .inl (.inl (by rw [upd_ne ne]; exact h))
  · have ne : sa ≠ a := fun e => by
      rw [e, hH] at h
      cases h
    exact .inl (.inr ⟨z, by rw [upd_ne ne]; exact h⟩)
  · exact .inr h
section
variable {P : Program} {w : World} {K : Fg} {mg : Str → Option Value} {base : Heap}
theorem draw_T {k : Nat} {x : Str} {ps : List Str} (c : CalR P w K mg base x k ps (spDraw K)) : Cal P w K mg base x k ps (pDraw K) := c.imp fun vs H Q E ⟨F, Ω, cs, G, wd, r, ⟨sa, l, hc, h0, h1, hq⟩, kk⟩ => by
  subst hc
  match vs, r with
  | [v1, v2], ⟨_, ⟨a, e1, e2, _⟩, _, ⟨r2, _⟩, _⟩ =>
    cases r2
    subst e1
    obtain ⟨hf, ⟨o, ho, p1, p2, p3, ns, hoo, hl, hS⟩, hm⟩ := wd.om a _ e2
    subst hoo
    exact ⟨a, sa, l, p1, p2, p3, ns, rfl, ho, wd.sub.sqL hS, hl, h0, h1, fun v p2' p3' g0 g1 => kk (.int v) (.int v) F Ω _ (Ext.mo wd e2 ⟨p1, p2', p3', ns, rfl, hl, hS⟩) (.int v) (hq v g0 g1)⟩
theorem next_T {k : Nat} {x : Str} {ps : List Str} (c : CalR P w K mg base x k ps (spNext K)) : Cal P w K mg base x k ps (pNext K) := c.imp fun vs H Q E ⟨F, Ω, cs, G, wd, r, ⟨sa, hc, hq⟩, kk⟩ => by
  subst hc
  match vs, r with
  | [v1], ⟨_, ⟨a, e1, e2, _⟩, _⟩ =>
    subst e1
    obtain ⟨hf, ⟨o, ho, p1, p2, p3, ns, hoo, hl, hS⟩, hm⟩ := wd.om a _ e2
    subst hoo
    exact ⟨a, sa, p1, p2, p3, ns, rfl, ho, wd.sub.sqL hS, hl, fun p1' p2' p3' => kk .none .non F Ω _ (Ext.mo wd e2 ⟨p1', p2', p3', ns, rfl, hl, hS⟩) .non hq⟩
end
end TL
namespace TL
open PySem PySem.Spec PyProof.Rows L2
section
variable {X : Cx} {a b e : Expr} {es : List Expr} {pos : Pos} {K : Fg}
/-! ### isinstance of the plain built-in types -/
inductive Tn where
  | non | bl | int | str | lst | tup | dic
def Tn.nm : Tn → String
  | .non => "NoneType"
  | .bl => "bool"
  | .int => "int"
  | .str => "str"
  | .lst => "list"
  | .tup => "tuple"
  | .dic => "dict"
def Tn.sub : Tn → Tn → Bool
  | .non, .non => true
  | .bl, .bl => true
  | .bl, .int => true
  | .int, .int => true
  | .str, .str => true
  | .lst, .lst => true
  | .tup, .tup => true
  | .dic, .dic => true
  | _, _ => false
theorem kit_tn (a b : Tn) : kitB a.nm b.nm = some (a.sub b) := by cases a <;> cases b <;> decide +kernel
def tnC : C → Option Tn
  | .sh .none => some .non
  | .sh (.bool _) => some .bl
  | .sh (.int _) => some .int
  | .sh (.str _) => some .str
  | .sh (.list _) => some .lst
  | .sh (.tuple _) => some .tup
  | .ol _ => some .lst
  | .oll _ => some .lst
  | .od _ => some .dic
  | .odT _ => some .dic
  | _ => none
def cIsi (T : Tn) (c : C) (G : CK) : Prop := match tnC c with
  | some n => G (.sh (.bool (n.sub T)))
  | none => False
theorem tnC_ty {F H : Hp} {Ω : Om} {c : C} {v : V} {A : List Addr} {n : Tn} (w : Wd F Ω H) (r : RC K F Ω H c v A) (h : tnC c = some n) : TyX K H v (.type n.nm) := by
  cases c with
  | sh d =>
    obtain ⟨r, _⟩ := r
    cases d with
    | none => cases h; cases r; exact .base .non
    | bool b => cases h; cases r; exact .base (.bl b)
    | int i => cases h; cases r; exact .base (.int i)
    | str x => cases h; cases r; exact .base (.str x)
    | list ds => cases h; cases r with | lst e q => exact .base (.lst (w.sub.lst e))
    | tuple ds =>
      cases h
      cases r with
      | tup e q =>
        rcases w.sub.sqT (K := K) (.inl (.inl e)) with (h | ⟨o, h⟩) | ⟨o, its, m, h1, h2, _⟩
        · exact .base (.tup h)
        · exact .fTuple h
        · exact .kTuple h1 h2
    | dict kvs => cases h
  | ol ds => cases h; obtain ⟨a, vs, rfl, _, e, _⟩ := r; exact .base (.lst e)
  | oll ds => cases h; obtain ⟨a, vs, as, rfl, _, e, _⟩ := r; exact .base (.lst e)
  | od ds => cases h; obtain ⟨a, vs, rfl, _, e, _⟩ := r; exact .base (.dK e)
  | odT ds => cases h; obtain ⟨a, vs, rfl, _, e, _⟩ := r; exact .base (.dT e)
  | un => cases h
  | mo I => cases h
theorem vc_isi {T : Tn} {p : Pos} {ta : TC} (ha : SE X a ta) (hb : PE X b (tC (.ty T.nm))) (hg : Gl X "isinstance") (hm : X.mg "isinstance" = none) (hs : starEach [a, b] X.env = (false, eval a X.env) :: starEach [b] X.env := by rfl) (hs2 : starEach [b] X.env = (false, eval b X.env) :: starEach [] X.env := by rfl) :
    VC X (.Call (.Name "isinstance" p) [a, b] [] pos) (cUn (cIsi T) ta) := by
  refine ⟨fun B => pe_imp (pe_callB call_isi hg hm PyProof.Rows.boot_isinstance (pa_cons (ha.pe B) (pa_cons hb pa_nil hs2) hs) (by decide) (by decide) hs (by rw [hs2]; rfl)) fun σ H Q ⟨F, Ω, ρ, G, en, g, k⟩ => ⟨F, Ω, ρ, _, en, g, fun c v F' Ω' H' A x r o gc => ?_⟩⟩
  unfold cIsi at gc
  split at gc
  · rename_i n hn
    exact ⟨_, _, _, _, _, rfl, .ty _, tnC_ty x.wd r hn, kit_ty (kit_tn n T), k.sh x (.bl _) gc⟩
  · exact gc.elim
abbrev cDivW := cI2 fun i j G => CDivW i j ∧ G (.sh (.int (i / j)))
theorem vc_divW {ta tb : TC} (ha : SE X a ta) (hb : SE X b tb) : VC X (.BinOp a .FloorDiv b pos) (cBin cDivW ta tb) := vc_op op_fdivW (ok_I2 (d := fun i j => .int (i / j)) (fun _ _ _ => .int _) fun _ _ _ h => h) ha hb
abbrev cMulW := cI2 fun i j G => CMulW i j ∧ G (.sh (.int (i * j)))
theorem vc_mulW {ta tb : TC} (ha : SE X a ta) (hb : SE X b tb) : VC X (.BinOp a .Mult b pos) (cBin cMulW ta tb) := vc_op op_mulW (ok_I2 (d := fun i j => .int (i * j)) (fun _ _ _ => .int _) fun _ _ _ h => h) ha hb
/-! ### sorted pairs of ints -/
abbrev eP (p : Int × Int) : D := .tuple [.int p.1, .int p.2]
def lexP (p q : Int × Int) : Bool := SrtO.lexB p q
theorem pairs_of {F H : Hp} (s : Sub F H) : ∀ {ps : List (Int × Int)} {vs : List V}, Reps K F vs (ps.map eP) → ∀ x ∈ vs, ∃ p, p ∈ ps ∧ Rep K F x (eP p)
  | [], _, .nil, _, m => nomatch m
  | p :: ps, _, .cons h t, x, m => by
    rcases List.mem_cons.mp m with rfl | m
    · exact ⟨p, List.mem_cons_self, h⟩
    · obtain ⟨q, hq, r⟩ := pairs_of s t x m
      exact ⟨q, List.mem_cons_of_mem _ hq, r⟩
theorem perm_lift {F : Hp} {f : Int × Int → D} {vs ys : List V} (hp : ys.Perm vs) : ∀ {ps : List (Int × Int)}, Reps K F vs (ps.map f) → ∃ qs : List (Int × Int), qs.Perm ps ∧ Reps K F ys (qs.map f) := by
  induction hp with
  | nil =>
    intro ps r
    cases ps with
    | nil => exact ⟨[], .refl _, .nil⟩
    | cons p ps => cases r
  | cons x _ ih =>
    intro ps r
    cases ps with
    | nil => cases r
    | cons p ps =>
      cases r with
      | cons h t =>
        obtain ⟨qs, hq, rq⟩ := ih t
        exact ⟨p :: qs, hq.cons p, .cons h rq⟩
  | swap x y l =>
    intro ps r
    cases ps with
    | nil => cases r
    | cons p ps =>
      cases r with
      | cons h t =>
        cases ps with
        | nil => cases t
        | cons q ps =>
          cases t with
          | cons h2 t => exact ⟨q :: p :: ps, .swap p q ps, .cons h2 (.cons h t)⟩
  | trans _ _ ih1 ih2 =>
    intro ps r
    obtain ⟨qs, hq, rq⟩ := ih2 r
    obtain ⟨us, hu, ru⟩ := ih1 rq
    exact ⟨us, hu.trans hq, ru⟩
/-- a value that is a pair of ints -/
def PrV (K : Fg) (H : Hp) (x : V) (p : Int × Int) : Prop := ∃ t, x = .ref t ∧ SqT K H t [.int p.1, .int p.2]
theorem cr_srtPr : CallR X (.builtin "sorted") (fun vs H Q => ∃ (a : Addr) (xs : List V), vs = [V.ref a] ∧ SqL X.K H a xs ∧ (∀ x ∈ xs, ∃ p, PrV X.K H x p) ∧
    ∀ (ys : List V) (d : Addr), ys.Perm xs → (∀ qs : List (Int × Int), Paired (PrV X.K H) ys qs → qs.Pairwise fun p q => ¬ lexP q p = true) → H d = none → Q (.ref d) (upd H d (.lst ys))) := by
  intro pins s σ H vs us Q I r h
  obtain ⟨a, xs, rfl, hs, hx, q⟩ := h
  obtain ⟨its, rv, hl, hz⟩ := I.list hs
  obtain ⟨u, rfl, ru⟩ := vals1 r
  obtain rfl : u = Value.ref a := ru
  obtain ⟨e1, e2⟩ := refs_back rv fun x m => let ⟨p, t, e, _⟩ := hx x m; ⟨t, e⟩
  -- each item's two ints
  let k : Value → Int × Int := fun u => Classical.epsilon fun p => PrV X.K H (backV u) p
  have hk : ∀ v ∈ its, PrV X.K H (backV v) (k v) := fun v hv => by
    have ex : ∃ p, PrV X.K H (backV v) p := hx _ (by rw [e1]; exact List.mem_map.mpr ⟨_, hv, rfl⟩)
    exact Classical.epsilon_spec (p := fun p => PrV X.K H (backV v) p) ex
  have uq : ∀ {x : V} {p p' : Int × Int}, PrV X.K H x p → PrV X.K H x p' → p = p' := fun {x p p'} ⟨t, e, h1⟩ ⟨t', e', h2⟩ => by
    subst e
    cases e'
    have e3 := I.tuple_inj h1 h2
    injection e3 with e4 e5
    injection e4 with e4
    injection e5 with e5 _
    injection e5 with e5
    exact Prod.ext e4 e5
  refine SrtO.sorted_pairsO (k := k) hl.isList (by rw [← rv.length]; exact hz) (fun v hv => ?_) fun h' d out h1 h2 kp hd hn => ?_
  · obtain ⟨t, rfl⟩ := e2 v hv
    obtain ⟨t', e, ht⟩ := hk _ hv
    cases e
    obtain ⟨its2, r2, ⟨o, ho, hc, n, hd⟩, _⟩ := I.tuple ht
    obtain ⟨u1, u2, rfl, ri, rj⟩ := vals2 r2
    obtain ⟨t1, rfl⟩ := ri
    obtain ⟨t2, rfl⟩ := rj
    exact ⟨t, o, t1, t2, n, rfl, ho, hc, hd⟩
  · have h3 : ∀ u ∈ out, ∃ a, u = Value.ref a := fun u hu => e2 u (h2.perm.mem_iff.mp hu)
    obtain ⟨n, hn⟩ := hn
    have hlen : (out.map backV).length ≤ sizeLine := by
      rw [List.length_map, h2.perm.length_eq, ← rv.length]
      exact hz
    refine ⟨.ref d, upd H d (.lst (out.map backV)), I.laid (t' := s.toks) kp hd ⟨hlen, out, n, vals_back h3, hn⟩, rfl, q _ d (by rw [e1]; exact h2.perm.map backV) (fun qs hq => ?_) (I.hok.fresh hd)⟩
    have eq : ∀ (l : List Value) (qs : List (Int × Int)), (∀ v ∈ l, v ∈ its) → Paired (PrV X.K H) (l.map backV) qs → qs = l.map k := by
      intro l
      induction l with
      | nil => intro qs _ h; cases h; rfl
      | cons v l ih =>
        intro qs hm h
        cases h with
        | cons h t => rw [uq h (hk v (hm v List.mem_cons_self)), ih _ (fun u hu => hm u (List.mem_cons_of_mem _ hu)) t]; rfl
    rw [eq out qs (fun v hv => h2.perm.mem_iff.mp hv) hq]
    refine List.pairwise_map.mpr (h1.imp fun {x y} h z => ?_)
    have h : SrtO.lexB (k y) (k x) = false := h
    have z : SrtO.lexB (k y) (k x) = true := z
    rw [h] at z
    cases z
def cSortP (c : C) (G : CK) : Prop := ∃ ps : List (Int × Int), lsC c = some (ps.map eP) ∧ ∀ qs : List (Int × Int), qs.Perm ps → (qs.Pairwise fun p q => ¬ lexP q p = true) → G (.ol (qs.map eP))
theorem rep_pr {F H : Hp} (s : Sub F H) {x : V} {p : Int × Int} (r : Rep K F x (eP p)) : PrV K H x p := by
  cases r with
  | tup e q =>
    cases q with
    | cons h1 q =>
      cases h1
      cases q with
      | cons h2 q =>
        cases h2
        cases q
        exact ⟨_, rfl, s.sqT (.inl (.inl e))⟩
theorem reps_pr {F H : Hp} (s : Sub F H) : ∀ {ps : List (Int × Int)} {vs : List V}, Reps K F vs (ps.map eP) → Paired (PrV K H) vs ps
  | [], _, .nil => .nil
  | _ :: _, _, .cons h t => .cons (rep_pr s h) (reps_pr s t)
theorem vc_sortP {p : Pos} {ta : TC} (ha : SE X a ta) (hg : Gl X "sorted") (hm : X.mg "sorted" = none) (hs : starEach [a] X.env = (false, eval a X.env) :: starEach [] X.env := by rfl) : VC X (.Call (.Name "sorted" p) [a] [] pos) (cUn cSortP ta) :=
  vc_b1 cr_srtPr (fun F Ω H c v A G Q w r ⟨ps, hl, h⟩ k => by
    obtain ⟨a, vs, rfl, ea, qa⟩ := lsC_get w r hl
    refine ⟨a, vs, rfl, .inl (.inl ea), fun x m => ?_, fun ys d hp hs n => ?_⟩
    · obtain ⟨p, _, rp⟩ := pairs_of w.sub qa x m
      exact ⟨p, rep_pr w.sub rp⟩
    · obtain ⟨qs, hq, rq⟩ := perm_lift hp qa
      exact k.ol w n rq (h qs hq (hs qs (reps_pr w.sub rq)))) hg hm (by decide +kernel) ha hs
end
end TL
namespace TL
open PySem PySem.Spec PyProof.Rows L2
theorem Room.units65 {k : Nat} {A : Around} (r : Room k A) : A.units + 65 < cLine := by have := r.un; omega
theorem blk_ok {N : List Str} {sc scope : Scope} {own : List (Str × Nat)} (h : blkC N sc scope own = true) : blkC N sc scope own = true := h
/-! ### reading lemmas -/
theorem lc_map {α : Type} {g : VG'} {tt : TB} {te : TC} {ρ : List C} (f : α → D) (h : α → D) (p : α → Bool) : ∀ (xs : List α) {ds : List D} {k : List D → Prop}, ds = xs.map f →
    (∀ a ∈ xs, ∀ (k1 : D → Prop) (k2 : Prop), (p a = true → k1 (h a)) → (p a = false → k2) → g (f a) ρ fun ρ1 => tt ρ1 fun b => if b = true then te ρ1 fun c => fz c k1 else k2) →
    k ((xs.filter p).map h) → lcRun g tt te ρ ds k
  | [], _, k, e, _, q => by subst e; exact q
  | a :: xs, _, k, e, st, q => by
    subst e
    refine st a List.mem_cons_self _ _ (fun hp => ?_) (fun hp => ?_)
    · refine lc_map f h p xs rfl (fun b m => st b (List.mem_cons_of_mem _ m)) ?_
      rw [List.filter_cons_of_pos hp] at q
      exact q
    · refine lc_map f h p xs rfl (fun b m => st b (List.mem_cons_of_mem _ m)) ?_
      rw [List.filter_cons_of_neg (by rw [hp]; decide)] at q
      exact q
/-- .. all of them kept -/
theorem lc_all {α : Type} {g : VG'} {tt : TB} {te : TC} {ρ : List C} (f : α → D) (h : α → D) (xs : List α) {ds : List D} {k : List D → Prop} (e : ds = xs.map f)
    (st : ∀ a ∈ xs, ∀ (k1 : D → Prop) (k2 : Prop), k1 (h a) → g (f a) ρ fun ρ1 => tt ρ1 fun b => if b = true then te ρ1 fun c => fz c k1 else k2) (q : k (xs.map h)) : lcRun g tt te ρ ds k :=
  lc_map f h (fun _ => true) xs e (fun a m k1 k2 h1 _ => st a m k1 k2 (h1 rfl)) (by rw [List.filter_eq_self.mpr fun _ _ => rfl]; exact q)
theorem slD_take {α : Type} (xs : List α) (i : Nat) : slD xs none (some (i : Int)) = xs.take i := by
  unfold slD
  rw [HT.sIx_none, HT.sIx_nat, List.drop_zero, Nat.sub_zero]
  by_cases h : i ≤ xs.length
  · rw [Nat.min_eq_left h]
  · rw [Nat.min_eq_right (by omega), List.take_of_length_le (Nat.le_refl _), List.take_of_length_le (by omega)]
theorem slD_drop {α : Type} (xs : List α) (i : Nat) : slD xs (some (i : Int)) none = xs.drop i := by
  unfold slD
  rw [HT.sIx_none, HT.sIx_nat]
  by_cases h : i ≤ xs.length
  · rw [Nat.min_eq_left h, List.take_of_length_le (by rw [List.length_drop]; exact Nat.le_refl _)]
  · rw [Nat.min_eq_right (by omega), List.drop_of_length_le (Nat.le_refl _), List.drop_of_length_le (by omega), List.take_nil]
theorem slD_drop1 {α : Type} (xs : List α) (i : Nat) : slD xs (some ((i : Int) + 1)) none = xs.drop (i + 1) := slD_drop xs (i + 1)
theorem enu_get {ds : List D} {i : Nat} {x : D} (h : (enuD 0 ds)[i]? = some x) : ∃ z, ds[i]? = some z ∧ x = .tuple [.int (i : Int), z] := by
  rw [enuD_get] at h
  cases hz : ds[i]? with
  | none => rw [hz] at h; cases h
  | some z =>
    rw [hz, Nat.zero_add] at h
    cases h
    exact ⟨z, rfl, rfl⟩
theorem map_get {α β : Type} {f : α → β} {xs : List α} {i : Nat} {x : β} (h : (xs.map f)[i]? = some x) : ∃ z, xs[i]? = some z ∧ x = f z := by
  rw [List.getElem?_map] at h
  cases hz : xs[i]? with
  | none => rw [hz] at h; cases h
  | some z =>
    rw [hz] at h
    cases h
    exact ⟨z, rfl, rfl⟩
theorem get_map {α β : Type} {f : α → β} {xs : List α} {i : Nat} {x : α} (h : xs[i]? = some x) : (xs.map f)[i]? = some (f x) := by rw [List.getElem?_map, h]; rfl
theorem lt_of_get {α : Type} {xs : List α} {i : Nat} {x : α} (h : xs[i]? = some x) : i < xs.length := (List.getElem?_eq_some_iff.mp h).1
theorem rng_get {lo : Int} {n i : Nat} {x : D} (h : (rngD lo n)[i]? = some x) : i < n ∧ x = .int (lo + i) := by
  have hi : i < n := by
    have := lt_of_get h
    simpa [rngD] using this
  have : (rngD lo n)[i]? = some (.int (lo + i)) := by simp [rngD, hi]
  rw [this] at h
  cases h
  exact ⟨hi, rfl⟩
theorem rng_len {lo : Int} {n : Nat} : (rngD lo n).length = n := by simp [rngD]
theorem rng_map {n : Nat} : rngD 0 n = (List.range n).map fun i => .int (i : Nat) := by
  unfold rngD
  congr 1
  funext i
  rw [Int.zero_add]
/-- a decided test -/
theorem itd {p A B : Prop} [Decidable p] (h1 : p → A) (h2 : ¬ p → B) : if decide p = true then A else B := ite2 (fun e => h1 (of_decide_eq_true e)) fun e => h2 fun h => e (decide_eq_true h)
theorem itn {p A B : Prop} [Decidable p] (h1 : ¬ p → A) (h2 : p → B) : if (!decide p) = true then A else B := by
  by_cases h : p
  · rw [decide_eq_true h]; exact h2 h
  · rw [decide_eq_false h]; exact h1 h
theorem itb {b : Bool} {A B : Prop} (h1 : b = true → A) (h2 : b = false → B) : if b = true then A else B := ite2 h1 fun e => h2 (by cases b <;> simp_all)
theorem slD_map {α β : Type} (f : α → β) (xs : List α) (lo hi : Option Int) : slD (xs.map f) lo hi = (slD xs lo hi).map f := by
  unfold slD
  rw [List.length_map, List.map_take, List.map_drop]
/-! data that are compared -/
theorem shaped_of {d : D} (h : d.canLay0 = true) (hd : d.depth ≤ 64) : SeqAt.shaped d = true := by
  show (d.canLay0 && decide (d.depth ≤ 64)) = true
  rw [h, decide_eq_true hd]
  rfl
theorem layI : ∀ ns : List Int, PyData.canLayAll0 (ns.map PyData.int) = true
  | [] => by simp [PyData.canLayAll0]
  | _ :: ns => by simp only [List.map_cons, PyData.canLayAll0, PyData.canLay0, layI ns]; rfl
theorem depI : ∀ ns : List Int, PyData.depthAll (ns.map PyData.int) = 0
  | [] => by simp [PyData.depthAll]
  | _ :: ns => by simp only [List.map_cons, PyData.depthAll, PyData.depth, depI ns]; rfl
theorem shaped_I (ns : List Int) : SeqAt.shaped (.list (ns.map PyData.int)) = true := shaped_of (by simp only [PyData.canLay0, layI]) (by simp only [PyData.depth, depI]; omega)
end TL
namespace TL
open PySem PySem.Spec PyProof.Rows L2
section
variable {X : Cx} {a b e : Expr} {es : List Expr} {pos : Pos} {K : Fg} {st : Stmt} {t u : TR}
/-! ### new dicts -/
theorem Fin.own {F : Hp} {Ω : Om} {H : Hp} {G : CK} {Q : VK} (h : Fin K F Ω H G Q) (w : Wd F Ω H) {p : Addr} (n : H p = none) {o : HO} {c : C} (r : ∀ H', H' p = some o → RC K F Ω H' c (.ref p) [p]) (g : G c) (ht : ∀ vs, o ≠ .tup vs := by intro _ z; cases z) : Q (.ref p) (upd H p o) :=
  h c _ F Ω _ [p] (Ext.laid w n ht) (r _ upd_same) (fun a m => by
    rw [List.mem_singleton.mp m]
    exact ⟨w.sub.none n, w.om_none n⟩) (fun a m => by rw [List.mem_singleton.mp m]; exact n) g
theorem vc_newK : VC X (.Dict [] [] pos) (fun ρ G => G (.od [])) :=
  ⟨fun B => pe_imp pe_dnewK fun σ H Q ⟨F, Ω, ρ, G, en, g, k⟩ => fun p n => k.own (c := .od []) en.wd n (fun H' e => ⟨p, [], rfl, rfl, e, .nil⟩) g⟩
theorem vc_newT : VC X (.Dict [] [] pos) (fun ρ G => G (.odT [])) :=
  ⟨fun B => pe_imp pe_dnewT fun σ H Q ⟨F, Ω, ρ, G, en, g, k⟩ => fun p n => k.own (c := .odT []) en.wd n (fun H' e => ⟨p, [], rfl, rfl, e, .nil⟩) g⟩
/-! ### a thing of one's own becomes shared -/
def pubO : C → HO → Prop
  | .ol [], o => o = .lst []
  | .od [], o => o = .dK []
  | .odT [], o => o = .dT []
  | _, _ => False
def pubAt (I : MI) (i : Nat) (ρ : List C) (G : List C → Prop) : Prop := ∃ c o, ρ[i]? = some c ∧ pubO c o ∧ (∀ F, I F o) ∧ (∀ F1 F2 o, Gr F1 F2 → I F1 o → I F2 o) ∧ G (ρ.set i (.mo I))
theorem pub_get {F : Hp} {Ω : Om} {H : Hp} {c : C} {o : HO} {v : V} {A : List Addr} (h : pubO c o) (r : RC K F Ω H c v A) : ∃ a, v = .ref a ∧ A = [a] ∧ H a = some o := by
  unfold pubO at h
  split at h
  · obtain ⟨a, vs, rfl, rfl, e, q⟩ := r
    cases q
    exact ⟨a, rfl, rfl, by rw [h]; exact e⟩
  · obtain ⟨a, vs, rfl, rfl, e, q⟩ := r
    cases q
    exact ⟨a, rfl, rfl, by rw [h]; exact e⟩
  · obtain ⟨a, vs, rfl, rfl, e, q⟩ := r
    cases q
    exact ⟨a, rfl, rfl, by rw [h]; exact e⟩
  · exact h.elim
theorem En.pub {B : Bs} {F : Hp} {Ω : Om} {H : Hp} {σ : L2.St} {ρ : List C} (e : En K B F Ω H σ ρ) {i : Nat} {I : MI} {c : C} {o : HO} (hc : ρ[i]? = some c) (hp : pubO c o) (hI : I F o) (hm : ∀ F1 F2 o, Gr F1 F2 → I F1 o → I F2 o) : ∃ Ω', En K B F Ω' H σ (ρ.set i (.mo I)) := by
  have hn : c ≠ .un := fun z => by rw [z] at hp; exact hp
  obtain ⟨As, h1, h2, h3⟩ := e.own
  obtain ⟨v, hv, r⟩ := h1 i c hc hn
  obtain ⟨a, rfl, eA, ea⟩ := pub_get hp r
  obtain ⟨v2, A2, hv2, r2, ow2, fin⟩ := e.chg (c' := .mo I) hc hn
  rw [hv] at hv2
  cases hv2
  obtain ⟨a2, z, eA2, ea2⟩ := pub_get hp r2
  cases z
  obtain ⟨f1, f2, f3, f4⟩ := h2 i a (by rw [eA]; exact List.mem_cons_self)
  let Ω' : Om := fun b => if b = a then some I else Ω b
  have on : ∀ b, b ≠ a → Ω' b = Ω b := fun b hb => if_neg hb
  refine ⟨Ω', fin F Ω' H [] ⟨e.ex.sub, e.ex.new, e.ex.keep, e.ex.here, fun b J hb => ?_, fun b hb => ?_, ⟨e.wd.sub, fun b J hb => ?_, e.wd.tp⟩⟩ (Gr.refl _) (fun b hb hh => ⟨rfl, on b (fun z => hb (by rw [eA2, z]; exact List.mem_cons_self)), fun o h _ => h⟩) (fun b J hb => ?_) ⟨a, rfl, if_pos rfl, rfl⟩ ow_nil (fun _ m => nomatch m)⟩
  · have := e.ex.omg b J hb
    rw [on b (fun z => by rw [z, f2] at this; cases this)]
    exact this
  · rw [on b (fun z => hb (by rw [z]; exact f4))]
    exact e.ex.omn b hb
  · by_cases z : b = a
    · subst z
      have : I = J := Option.some.inj ((if_pos rfl).symm.trans hb)
      subst this
      exact ⟨f1, ⟨o, ea, hI⟩, hm⟩
    · rw [on b z] at hb
      exact e.wd.om b J hb
  · rw [on b (fun z => by rw [z, f2] at hb; cases hb)]
    exact hb
/-- .. ahead of a statement -/
theorem vs_pub (I : MI) (i : Nat) (h : VS X st t) : VS X st (fun d ρ => pubAt I i ρ (t d)) :=
  ⟨fun B => ps_imp (h.ps B) fun De σ H ⟨F, Ω, ρ, d, en, ⟨c, o, hc, hp, hI, hm, g⟩, k⟩ => by
    obtain ⟨Ω', en'⟩ := en.pub hc hp (hI F) hm
    exact ⟨F, Ω', _, d, en', g, k⟩⟩
/-- what comes behind a statement, told once -/
theorem vs_cut (h : VS X st t) : VS X st (fun d ρ => ∃ Z : List C → Prop, t { d with nx := Z } ρ ∧ ∀ ρ', Z ρ' → d.nx ρ') :=
  ⟨fun B => ps_imp (h.ps B) fun De σ H ⟨F, Ω, ρ, d, en, ⟨Z, g, z⟩, k⟩ => ⟨F, Ω, ρ, { d with nx := Z }, en, g, ⟨fun σ' F' Ω' H' ρ' gr en' g' => k.nx σ' F' Ω' H' ρ' gr en' (z ρ' g'), k.rt, k.bk, k.ct⟩⟩⟩
/-! ### where a law begins -/
def spLaw (K : Fg) : Sp := fun vs H Q _ => ∃ (a : Addr) (ns : List Int), vs = [.ref a] ∧ SqL K H a (ns.map V.int) ∧ ns.length ≤ 63 ∧ ∀ H', Q (.bl true) H'
def B0 : Bs := ⟨fun _ => none, fun _ => none, fun _ => none⟩
theorem law_en {H : Hp} {sa p : Addr} {ns : List Int} {r : Int} (n : Nat) (hS : SqL K H sa (ns.map V.int)) (hl : ns.length ≤ 63) (hp : H p = none) :
    ∃ F Ω, En K B0 F Ω (upd H p (.lst [.ref sa, .int 0, .int r, .int 0])) (some (.ref sa) :: some (.ref p) :: List.replicate n none) (.un :: .mo (PoolI K sa) :: List.replicate n .un) := by
  let T : HO → Option HO := fun o => match o with
    | .tup vs => some (.tup vs)
    | _ => none
  let F : Hp := fun b => if b = p then none else if b = sa then H b else (H b).bind T
  let Ω : Om := fun b => if b = p then some (PoolI K sa) else none
  have fs : sa ≠ p → F sa = H sa := fun z => by show (if sa = p then none else if sa = sa then H sa else (H sa).bind T) = _; rw [if_neg z, if_pos rfl]
  have hF : SqL K F sa (ns.map V.int) := by
    rcases hS with (h | ⟨o, h⟩) | h
    · exact .inl (.inl (by rw [fs (ne_of_none h hp)]; exact h))
    · exact .inl (.inr ⟨o, by rw [fs (ne_of_none h hp)]; exact h⟩)
    · exact .inr h
  have wd : Wd F Ω (upd H p (.lst [.ref sa, .int 0, .int r, .int 0])) := by
    refine ⟨fun b u hb => ?_, fun b J hb => ?_, fun b vs e => ?_⟩
    · have hb : (if b = p then none else if b = sa then H b else (H b).bind T) = some u := hb
      by_cases z : b = p
      · rw [if_pos z] at hb; cases hb
      · rw [if_neg z] at hb
        rw [upd_ne z]
        by_cases z2 : b = sa
        · rw [if_pos z2] at hb; exact .inl hb
        · rw [if_neg z2] at hb
          cases ho : H b with
          | none => rw [ho] at hb; cases hb
          | some o =>
            rw [ho] at hb
            have hb : T o = some u := hb
            cases o with
            | tup vs => exact .inl hb
            | _ => cases hb
    · have hb : (if b = p then some (PoolI K sa) else none) = some J := hb
      by_cases z : b = p
      · rw [if_pos z] at hb
        cases hb
        subst z
        exact ⟨if_pos rfl, ⟨_, upd_same, 0, r, 0, ns, rfl, hl, hF⟩, pool_mono K sa⟩
      · rw [if_neg z] at hb
        cases hb
    · have z : b ≠ p := fun z => by rw [z, upd_same] at e; cases e
      rw [upd_ne z] at e
      show (if b = p then none else if b = sa then H b else (H b).bind T) = _
      rw [if_neg z]
      by_cases z2 : b = sa
      · rw [if_pos z2]; exact e
      · rw [if_neg z2, e]; rfl
  have ex : Ext B0.F B0.Ω B0.H F Ω (upd H p (.lst [.ref sa, .int 0, .int r, .int 0])) := by
    constructor
    · exact fun _ _ h => nomatch h
    · exact fun _ h => absurd rfl h
    · exact fun _ _ h => nomatch h
    · exact fun _ h => absurd rfl h
    · exact fun _ _ h => nomatch h
    · exact fun _ h => absurd rfl h
    · exact wd
  refine ⟨F, Ω, ex, by simp, fun _ => [], fun i c hc hn => ?_, fun _ _ m => (nomatch m), fun _ _ _ _ m => (nomatch m)⟩
  match i, hc with
    | 0, hc => cases hc; exact absurd rfl hn
    | 1, hc => cases hc; exact ⟨.ref p, rfl, p, rfl, if_pos rfl, rfl⟩
    | i + 2, hc =>
      have hc : (List.replicate n C.un)[i]? = some c := hc
      have := List.eq_of_mem_replicate (List.mem_of_getElem? hc)
      exact absurd this hn
theorem law_go {tr : TR} {H : Hp} {sa p : Addr} {ns : List Int} {r : Int} {n : Nat} {De : Ends} (hS : SqL K H sa (ns.map V.int)) (hl : ns.length ≤ 63) (hp : H p = none) (q : ∀ H', De.rt (.bl true) H')
    (h : tr ⟨fun _ => False, fun d => d = .bool true, fun _ => False, fun _ => False⟩ (.un :: .mo (PoolI K sa) :: List.replicate n .un)) : upT K B0 tr De (some (.ref sa) :: some (.ref p) :: List.replicate n none) (upd H p (.lst [.ref sa, .int 0, .int r, .int 0])) := by
  obtain ⟨F, Ω, en⟩ := law_en (r := r) n hS hl hp
  exact ⟨F, Ω, _, _, en, h, ⟨fun _ _ _ _ _ _ _ z => z.elim, fun v F' Ω' H' x _ _ rx z => by
    have z : x = .bool true := z
    subst z
    cases rx
    exact q H', fun _ _ _ _ _ _ _ z => z.elim, fun _ _ _ _ _ _ _ z => z.elim⟩⟩
end
end TL
namespace TL
open PySem PySem.Spec PyProof.Rows L2
/-! ### zip of lists and tuples, any number of them, strict or not -/
section
variable {prog : Program} {w : World} {A : Around} {E : Value → Shared → Prop} {s : Shared}
def ItAt (h : Heap) (tp : Bool) (it src : Addr) (i : Nat) : Prop := match tp with
  | true => h.IsTupleIter it src i
  | false => h.IsListIter it src i
def SqAt (h : Heap) (tp : Bool) (src : Addr) (xs : Array Value) : Prop := match tp with
  | true => h.IsTuple src xs
  | false => h.IsList src xs
theorem ItAt.at {h h' : Heap} {tp : Bool} {it src : Addr} {i : Nat} (x : ItAt h tp it src i) (e : ∀ o, h.get? it = some o → h'.get? it = some o) : ItAt h' tp it src i := by
  cases tp
  · exact Heap.IsListIter.at x e
  · exact Heap.IsTupleIter.at x e
theorem SqAt.at {h h' : Heap} {tp : Bool} {src : Addr} {xs : Array Value} (x : SqAt h tp src xs) (e : ∀ o, h.get? src = some o → h'.get? src = some o) : SqAt h' tp src xs := by
  cases tp
  · exact Heap.IsList.at x e
  · exact Heap.IsTuple.at x e
theorem ItAt.lt {h : Heap} {tp : Bool} {it src : Addr} {i : Nat} (x : ItAt h tp it src i) : it < h.objs.size := by
  cases tp
  · obtain ⟨o, e, _⟩ := x; exact Heap.lt_size e
  · obtain ⟨o, e, _⟩ := x; exact Heap.lt_size e
theorem ItAt.obj {h : Heap} {tp : Bool} {it src : Addr} {i : Nat} (x : ItAt h tp it src i) : ∃ o, h.get? it = some o ∧ ∀ v, o.data ≠ .cell v := by
  cases tp
  · obtain ⟨o, e, _, d⟩ := x; exact ⟨o, e, fun v q => by rw [d] at q; cases q⟩
  · obtain ⟨o, e, _, d⟩ := x; exact ⟨o, e, fun v q => by rw [d] at q; cases q⟩
theorem nextOf_at {tp : Bool} {it src : Addr} {i : Nat} {xs : Array Value} {x : Value} {Q : Value → Shared → Prop} (hit : ItAt s.heap tp it src i) (hl : SqAt s.heap tp src xs) (hx : xs[i]? = some x)
    (hQ : ∀ h', ItAt h' tp it src (i + 1) → Heap.SameBut it s.heap h' → Q x { s with heap := h' }) : wpAny (model prog w) A (Builtin.SmallTypes.nextOf (.ref it)) Q E s := by
  cases tp
  · exact wpAny_nextOf_list_item hit hl hx hQ
  · exact wpAny_nextOf_tuple_item hit hl hx hQ
theorem nextOf_end {tp : Bool} {it src : Addr} {i : Nat} {xs : Array Value} {Q : Value → Shared → Prop} (hh : A.handled = none) (hit : ItAt s.heap tp it src i) (hl : SqAt s.heap tp src xs) (hx : xs[i]? = none)
    (hE : ∀ h' e, Heap.ExtBut it s.heap h' → (∃ o, h'.get? e = some o ∧ o.cls = .type "StopIteration") → E (.ref e) { s with heap := h' }) : wpAny (model prog w) A (Builtin.SmallTypes.nextOf (.ref it)) Q E s := by
  cases tp
  · exact wpAny_nextOf_list_end hh hit hl hx hE
  · exact wpAny_nextOf_tuple_end hh hit hl hx hE
theorem nextOrEnd_at {tp : Bool} {it src : Addr} {i : Nat} {xs : Array Value} {x : Value} {Q : Option Value → Shared → Prop} (hit : ItAt s.heap tp it src i) (hl : SqAt s.heap tp src xs) (hx : xs[i]? = some x)
    (hQ : ∀ h', ItAt h' tp it src (i + 1) → Heap.SameBut it s.heap h' → Q (some x) { s with heap := h' }) : wpAny (model prog w) A (Builtin.SmallTypes.nextOrEnd (.ref it)) Q E s := by
  unfold Builtin.SmallTypes.nextOrEnd
  exact wpAny_bind (wpAny_attempt (nextOf_at hit hl hx fun h' a b => wpAny_pure (hQ h' a b)))
theorem nextOrEnd_end {tp : Bool} {it src : Addr} {i : Nat} {xs : Array Value} {Q : Option Value → Shared → Prop} (hh : A.handled = none) (hit : ItAt s.heap tp it src i) (hl : SqAt s.heap tp src xs) (hx : xs[i]? = none)
    (hQ : ∀ h', Heap.ExtBut it s.heap h' → Q none { s with heap := h' }) : wpAny (model prog w) A (Builtin.SmallTypes.nextOrEnd (.ref it)) Q E s := by
  unfold Builtin.SmallTypes.nextOrEnd
  refine wpAny_bind (wpAny_attempt (nextOf_end hh hit hl hx fun h' e a ⟨o, ho, hc⟩ => ?_))
  refine wpAny_bind (wpAny_isInstance (T := "StopIteration") (b := true) ⟨o, ho, hc⟩ isSubtype_stop ?_)
  exact wpAny_pure (hQ h' a)
/-- a loop that hands on one value -/
theorem forIn_same {α β : Type} {f : α → β → Sem (ForInStep β)} {b0 : β} {P : Nat → Shared → Prop} {R : β → Shared → Prop} {M : Model} : ∀ (l : List α) (k : Nat) (s : Shared), P k s →
    (∀ j a s, l[j]? = some a → P (k + j) s → wpAny M A (f a b0) (fun r s' => r = .yield b0 ∧ P (k + j + 1) s') E s) → (∀ s, P (k + l.length) s → R b0 s) → wpAny M A (forIn l b0 f) R E s
  | [], k, s, h, _, fin => by
    rw [List.forIn_nil]
    exact wpAny_pure (fin s h)
  | a :: l, k, s, h, step, fin => by
    rw [List.forIn_cons]
    refine wpAny_bind (wpAny_mono (step 0 a s rfl h) (fun r s' ⟨e, h'⟩ => ?_) fun _ _ x => x)
    subst e
    exact forIn_same l (k + 1) s' h' (fun j a s hj hP => by
      have := step (j + 1) a s (by simpa using hj) (by rw [show k + (j + 1) = k + 1 + j by omega]; exact hP)
      rwa [show k + (j + 1) + 1 = k + 1 + j + 1 by omega] at this) (fun s hs => fin s (by rw [show k + (a :: l).length = k + 1 + l.length by simp; omega]; exact hs))
abbrev ZRec (h : Heap) (z TI TO : Addr) (f0 : Value) (b : Bool) : Prop := h.get? z = some { cls := .type "zip", dict := none, data := .fields #[f0, .bool false, .bool b, .ref TI, .ref TO], slots := #[] }
abbrev TupAt (h : Heap) (T : Addr) (xs : List Value) : Prop := h.get? T = some { cls := .type "tuple", data := .seq xs.toArray }
structure ZE where
  it : Addr
  tp : Bool
  src : Addr
structure ZSep (z TI TO : Addr) (L : List ZE) : Prop where
  TIz : TI ≠ z
  TOz : TO ≠ z
  TITO : TI ≠ TO
  iz : ∀ e ∈ L, e.it ≠ z
  iTI : ∀ e ∈ L, e.it ≠ TI
  iTO : ∀ e ∈ L, e.it ≠ TO
  nd : ∀ (j k : Nat) (e e' : ZE), L[j]? = some e → L[k]? = some e' → j ≠ k → e.it ≠ e'.it
  sz : ∀ e ∈ L, e.src ≠ z
  sTO : ∀ e ∈ L, e.src ≠ TO
  si : ∀ e ∈ L, ∀ e' ∈ L, e.src ≠ e'.it
  ne : L ≠ []
  len : L.length ≤ 1000
/-- the cells that a turn writes at -/
def ZCh (z TO : Addr) (L : List ZE) (c : Addr) : Prop := c = z ∨ c = TO ∨ ∃ e ∈ L, c = e.it
theorem updateSeq_tup {T : Addr} {xs : List Value} {x : Value} {k : Nat} {Q : Unit → Shared → Prop} (hT : TupAt s.heap T xs) (hl : xs.length ≤ 1000)
    (h : ∀ h', TupAt h' T (xs.set k x) → Heap.SameBut T s.heap h' → Q () { s with heap := h' }) : wpAny (model prog w) A (updateSeq T (·.setIfInBounds k x)) Q E s := by
  have hz : xs.length ≤ sizeLine := sz (by omega)
  refine wpAny_updateSeq hT rfl (h _ ?_ (Heap.SameBut.update ..)) (by simpa using hz) (by simp; omega)
  show Heap.get? _ T = _
  rw [Heap.get?_update_self _ hT rfl]
  simp [Obj.mapSeq]
theorem zip_item {z TI TO : Addr} {L : List ZE} {b : Bool} {i : Nat} {vals : List Value} {Q : Value → Shared → Prop} (D : ZSep z TI TO L) (hz : ZRec s.heap z TI TO .none b) (hTI : TupAt s.heap TI (L.map fun e => .ref e.it)) {xs0 : List Value} (hTO : TupAt s.heap TO xs0) (hx0 : xs0.length = L.length)
    (hit : ∀ e ∈ L, ItAt s.heap e.tp e.it e.src i) (hv : vals.length = L.length) (hs : ∀ (k : Nat) (e : ZE), L[k]? = some e → ∃ xs x, SqAt s.heap e.tp e.src xs ∧ xs[i]? = some x ∧ vals[k]? = some x)
    (hQ : ∀ h', ZRec h' z TI TO (rawInt s.heap.objs.size) b → TupAt h' TO vals → (∀ e ∈ L, ItAt h' e.tp e.it e.src (i + 1)) → TupAt h' s.heap.objs.size vals → h'.objs.size = s.heap.objs.size + 1 → (∀ c o, ¬ ZCh z TO L c → s.heap.get? c = some o → h'.get? c = some o) → Q (.ref s.heap.objs.size) { s with heap := h' }) :
    wpAny (model prog w) A (Builtin.«zip.__next__» ⟨[.ref z], []⟩) (fun fin s' => ∃ v, fin = .done (.ret v) ∧ Q v s') E s := by
  show wpAny _ _ (field (.ref z) 2 >>= _) _ _ _
  refine wpAny_bind (wpAny_field hz rfl (x := .bool b) rfl ?_)
  show wpAny _ _ (field (.ref z) 3 >>= _) _ _ _
  refine wpAny_bind (wpAny_field hz rfl (x := .ref TI) rfl ?_)
  refine wpAny_bind (wpAny_seqItems hTI rfl ?_)
  have hne : ((L.map fun e => Value.ref e.it).toArray).isEmpty = false := by
    cases h : L with
    | nil => exact absurd h D.ne
    | cons a r => rfl
  simp only [hne, Bool.false_eq_true, if_false]
  refine wpAny_bind ?_
  unfold Builtin.SmallTypes.ownedTupleIsFree
  refine wpAny_bind (wpAny_field hz rfl (x := .none) rfl (wpAny_pure ?_))
  simp only [if_true]
  refine wpAny_bind (wpAny_rule ?_)
  refine wpAny_bind (wpAny_field hz rfl (x := .ref TO) rfl ?_)
  refine wpAny_bind (wpAny_setField_rec hz (by simp) fun h₁ hz₁ hs₁ => ?_)
  replace hz₁ : ZRec h₁ z TI TO .ellipsis b := hz₁
  refine wpAny_bind ?_
  refine forIn_same (P := fun k s' => ∃ h ys, s' = { s with heap := h } ∧ h.objs.size = s.heap.objs.size ∧ ZRec h z TI TO .ellipsis b ∧ TupAt h TO ys ∧ ys.length = L.length ∧ (∀ j, j < k → ys[j]? = vals[j]?) ∧
    (∀ (j : Nat) (e : ZE), L[j]? = some e → ItAt h e.tp e.it e.src (if j < k then i + 1 else i)) ∧ ∀ c o, ¬ ZCh z TO L c → s.heap.get? c = some o → h.get? c = some o) _ 0 _ ?_ ?_ ?_
  · refine ⟨h₁, xs0, rfl, hs₁.1, hz₁, hs₁.extBut _ _ D.TOz hTO, hx0, fun j h => absurd h (Nat.not_lt_zero _), fun j e he => ?_, fun c o hc ho => hs₁.extBut _ _ (fun q => hc (.inl q)) ho⟩
    have hm := List.mem_of_getElem? he
    rw [if_neg (Nat.not_lt_zero _)]
    exact (hit e hm).at fun o q => hs₁.extBut _ _ (D.iz e hm) q
  · rintro j ⟨a, k⟩ s' hj ⟨h, ys, rfl, g1, g2, g3, g4, g5, g6, g7⟩
    rw [Nat.zero_add] at g5 g6 ⊢
    obtain ⟨e, he, ha, hk⟩ : ∃ e, L[j]? = some e ∧ a = .ref e.it ∧ k = j := by
      rw [List.getElem?_zipIdx, List.getElem?_map] at hj
      cases hL : L[j]? with
      | none => rw [hL] at hj; cases hj
      | some e => rw [hL] at hj; cases hj; exact ⟨e, rfl, rfl, by simp⟩
    subst ha hk
    have hm := List.mem_of_getElem? he
    have hkl := (List.getElem?_eq_some_iff.mp he).1
    obtain ⟨xs, x, hq, hx, hvx⟩ := hs k e he
    have hq' : SqAt h e.tp e.src xs := hq.at fun o q => g7 _ _ (fun c => by
      rcases c with c | c | ⟨e', m', c⟩
      · exact D.sz e hm c
      · exact D.sTO e hm c
      · exact D.si e hm e' m' c) q
    have ei := g6 k e he
    rw [if_neg (Nat.lt_irrefl _)] at ei
    have rest : ∀ h2, ItAt h2 e.tp e.it e.src (i + 1) → Heap.SameBut e.it h h2 → wpAny (model prog w) A (do
        let some kept ← seqItems? (.ref TO) | (do unsupported "internal:zip.__next__"; pure (ForInStep.yield ((none : Option PySem.Fin), ())))
        updateSeq TO (·.setIfInBounds k x)
        letGo [kept.getD k .none]
        pure (ForInStep.yield (none, ()))) (fun r s' => r = .yield (none, ()) ∧ ∃ h ys, s' = { s with heap := h } ∧ h.objs.size = s.heap.objs.size ∧ ZRec h z TI TO .ellipsis b ∧ TupAt h TO ys ∧ ys.length = L.length ∧ (∀ j, j < k + 1 → ys[j]? = vals[j]?) ∧
    (∀ (j : Nat) (e : ZE), L[j]? = some e → ItAt h e.tp e.it e.src (if j < k + 1 then i + 1 else i)) ∧ ∀ c o, ¬ ZCh z TO L c → s.heap.get? c = some o → h.get? c = some o) E { s with heap := h2 } := by
      intro h2 e2 sb
      have hTO2 : TupAt h2 TO ys := sb.extBut _ _ (Ne.symm (D.iTO e hm)) g3
      refine wpAny_bind (wpAny_seqItems hTO2 rfl ?_)
      refine wpAny_bind (updateSeq_tup hTO2 (by rw [g4]; exact D.len) fun h3 hTO3 sb3 => ?_)
      refine wpAny_bind (wpAny_letGo (wpAny_pure ⟨rfl, h3, ys.set k x, rfl, by rw [sb3.1, sb.1, g1], ?_, hTO3, by rw [List.length_set, g4], fun j hj => ?_, fun j e' he' => ?_, fun c o hc ho => ?_⟩))
      · exact sb3.extBut _ _ (Ne.symm D.TOz) (sb.extBut _ _ (Ne.symm (D.iz e hm)) g2)
      · by_cases hjk : j = k
        · subst hjk
          rw [List.getElem?_set_self (by rw [g4]; exact hkl), hvx]
        · rw [List.getElem?_set_ne (Ne.symm hjk)]
          exact g5 j (by omega)
      · have hm' := List.mem_of_getElem? he'
        by_cases hjk : j = k
        · subst hjk
          rw [he] at he'
          cases he'
          rw [if_pos (Nat.lt_succ_self _)]
          exact e2.at fun o q => sb3.extBut _ _ (D.iTO e hm) q
        · have z1 := g6 j e' he'
          have z2 : (if j < k + 1 then i + 1 else i) = (if j < k then i + 1 else i) := by
            by_cases h : j < k
            · rw [if_pos h, if_pos (by omega)]
            · rw [if_neg h, if_neg (by omega)]
          rw [z2]
          exact z1.at fun o q => sb3.extBut _ _ (D.iTO e' hm') (sb.extBut _ _ (D.nd j k e' e he' he hjk) q)
      · exact sb3.extBut _ _ (fun q => hc (.inr (.inl q))) (sb.extBut _ _ (fun q => hc (.inr (.inr ⟨e, hm, q⟩))) (g7 c o hc ho))
    refine wpAny_bind (wpAny_onRaise ?_)
    cases b with
    | false =>
      show wpAny _ _ (Builtin.SmallTypes.nextOf (.ref e.it) >>= _) _ _ _
      exact wpAny_bind (nextOf_at ei hq' hx fun h2 e2 sb => wpAny_pure (rest h2 e2 sb))
    | true =>
      show wpAny _ _ (Builtin.SmallTypes.nextOrEnd (.ref e.it)) _ _ _
      exact nextOrEnd_at ei hq' hx fun h2 e2 sb => rest h2 e2 sb
  · rintro s' ⟨h, ys, rfl, g1, g2, g3, g4, g5, g6, g7⟩
    have hys : ys = vals := by
      apply List.ext_getElem?
      intro j
      by_cases hj : j < L.length
      · exact g5 j (by simpa using hj)
      · rw [List.getElem?_eq_none (by omega), List.getElem?_eq_none (by omega)]
    subst hys
    refine wpAny_bind (wpAny_seqItems g3 rfl ?_)
    refine wpAny_bind (wpAny_newTuple ?_ (sz (by have := D.len; show ys.toArray.toList.length ≤ _; simp; omega)))
    have hzlt : z < h.objs.size := Heap.lt_size g2
    show wpAny _ _ (Builtin.SmallTypes.ownedTupleHandOut (.ref z) (.ref h.objs.size) >>= _) _ _ _
    refine wpAny_bind ?_
    unfold Builtin.SmallTypes.ownedTupleHandOut
    have hz₆ : ZRec (h.push { cls := .type "tuple", data := .seq ys.toArray }) z TI TO .ellipsis b := Heap.get?_push_of_some _ g2
    refine wpAny_bind (wpAny_setField_rec hz₆ (by simp) fun h₇ hz₇ hs₇ => ?_)
    replace hz₇ : ZRec h₇ z TI TO (rawInt h.objs.size) b := hz₇
    refine wpAny_setField_rec hz₇ (by simp) fun h₈ hz₈ hs₈ => ?_
    replace hz₈ : ZRec h₈ z TI TO (rawInt h.objs.size) b := hz₈
    have up : ∀ c o, c ≠ z → h.get? c = some o → h₈.get? c = some o := fun c o c1 e => hs₈.extBut _ _ c1 (hs₇.extBut _ _ c1 (Heap.get?_push_of_some _ e))
    have hT₈ : TupAt h₈ h.objs.size ys := hs₈.extBut _ _ (Nat.ne_of_gt hzlt) (hs₇.extBut _ _ (Nat.ne_of_gt hzlt) (Heap.get?_push_size _ rfl))
    have hz8 : h₈.objs.size = h.objs.size + 1 := by rw [hs₈.1, hs₇.1, Heap.size_push]
    rw [g1] at hz₈ hT₈ hz8
    refine wpAny_pure ⟨_, rfl, ?_⟩
    show Q (.ref h.objs.size) _
    rw [g1]
    refine hQ h₈ hz₈ (up _ _ D.TOz g3) (fun e hm => ?_) hT₈ hz8 fun c o c1 c2 => up c o (fun q => c1 (.inl q)) (g7 c o c1 c2)
    obtain ⟨k, hk, rfl⟩ := List.mem_iff_getElem.mp hm
    have z1 := g6 k L[k] (List.getElem?_eq_getElem hk)
    rw [if_pos (by simpa using hk)] at z1
    exact z1.at fun o q => up _ _ (D.iz _ hm) q
theorem zip_end {z TI TO : Addr} {L : List ZE} {b : Bool} {i m : Nat} {Q : PySem.Fin → Shared → Prop} (hh : A.handled = none) (D : ZSep z TI TO L) (hz : ZRec s.heap z TI TO .none b) (hTI : TupAt s.heap TI (L.map fun e => .ref e.it)) {xs0 : List Value} (hTO : TupAt s.heap TO xs0) (hx0 : xs0.length = L.length)
    (hit : ∀ e ∈ L, ItAt s.heap e.tp e.it e.src i) {em : ZE} (hm : L[m]? = some em) (hs : ∀ (k : Nat) (e : ZE), k < m → L[k]? = some e → ∃ xs x, SqAt s.heap e.tp e.src xs ∧ xs[i]? = some x) (he : ∃ xs, SqAt s.heap em.tp em.src xs ∧ xs[i]? = none)
    (hb : b = true → m = 0 ∧ ∀ e ∈ L, ∃ xs, SqAt s.heap e.tp e.src xs ∧ xs[i]? = none)
    (hE : ∀ h' e, (∀ c o, ¬ ZCh z TO L c → s.heap.get? c = some o → h'.get? c = some o) → (∃ o, h'.get? e = some o ∧ o.cls = .type "StopIteration") → E (.ref e) { s with heap := h' }) :
    wpAny (model prog w) A (Builtin.«zip.__next__» ⟨[.ref z], []⟩) Q E s := by
  show wpAny _ _ (field (.ref z) 2 >>= _) _ _ _
  refine wpAny_bind (wpAny_field hz rfl (x := .bool b) rfl ?_)
  show wpAny _ _ (field (.ref z) 3 >>= _) _ _ _
  refine wpAny_bind (wpAny_field hz rfl (x := .ref TI) rfl ?_)
  refine wpAny_bind (wpAny_seqItems hTI rfl ?_)
  have hne : ((L.map fun e => Value.ref e.it).toArray).isEmpty = false := by
    cases h : L with
    | nil => exact absurd h D.ne
    | cons a r => rfl
  simp only [hne, Bool.false_eq_true, if_false]
  refine wpAny_bind ?_
  unfold Builtin.SmallTypes.ownedTupleIsFree
  refine wpAny_bind (wpAny_field hz rfl (x := .none) rfl (wpAny_pure ?_))
  simp only [if_true]
  refine wpAny_bind (wpAny_rule ?_)
  refine wpAny_bind (wpAny_field hz rfl (x := .ref TO) rfl ?_)
  refine wpAny_bind (wpAny_setField_rec hz (by simp) fun h₁ hz₁ hs₁ => ?_)
  replace hz₁ : ZRec h₁ z TI TO .ellipsis b := hz₁
  refine wpAny_bind ?_
  have hml := (List.getElem?_eq_some_iff.mp hm).1
  refine forIn_same (P := fun k s' => k ≤ m ∧ ∃ h ys, s' = { s with heap := h } ∧ ZRec h z TI TO .ellipsis b ∧ TupAt h TO ys ∧ ys.length = L.length ∧
    (∀ (j : Nat) (e : ZE), L[j]? = some e → ItAt h e.tp e.it e.src (if j < k then i + 1 else i)) ∧ ∀ c o, ¬ ZCh z TO L c → s.heap.get? c = some o → h.get? c = some o) _ 0 _ ?_ ?_ ?_
  · refine ⟨Nat.zero_le _, h₁, xs0, rfl, hz₁, hs₁.extBut _ _ D.TOz hTO, hx0, fun j e he => ?_, fun c o hc ho => hs₁.extBut _ _ (fun q => hc (.inl q)) ho⟩
    have hm := List.mem_of_getElem? he
    rw [if_neg (Nat.not_lt_zero _)]
    exact (hit e hm).at fun o q => hs₁.extBut _ _ (D.iz e hm) q
  · rintro j ⟨a, k⟩ s' hj ⟨hkm, h, ys, rfl, g2, g3, g4, g6, g7⟩
    rw [Nat.zero_add] at hkm g6 ⊢
    obtain ⟨e, he', ha, hk⟩ : ∃ e, L[j]? = some e ∧ a = .ref e.it ∧ k = j := by
      rw [List.getElem?_zipIdx, List.getElem?_map] at hj
      cases hL : L[j]? with
      | none => rw [hL] at hj; cases hj
      | some e => rw [hL] at hj; cases hj; exact ⟨e, rfl, rfl, by simp⟩
    subst ha hk
    have hme := List.mem_of_getElem? he'
    have hkl := (List.getElem?_eq_some_iff.mp he').1
    have keep : ∀ e ∈ L, ∀ {xs}, SqAt s.heap e.tp e.src xs → SqAt h e.tp e.src xs := fun e hm xs hq => hq.at fun o q => g7 _ _ (fun c => by
      rcases c with c | c | ⟨e', m', c⟩
      · exact D.sz e hm c
      · exact D.sTO e hm c
      · exact D.si e hm e' m' c) q
    have ei := g6 k e he'
    rw [if_neg (Nat.lt_irrefl _)] at ei
    refine wpAny_bind (wpAny_onRaise ?_)
    by_cases hlt : k < m
    · have hbf : b = false := by
        cases b with
        | false => rfl
        | true => have := (hb rfl).1; omega
      subst hbf
      obtain ⟨xs, x, hq, hx⟩ := hs k e hlt he'
      show wpAny _ _ (Builtin.SmallTypes.nextOf (.ref e.it) >>= _) _ _ _
      refine wpAny_bind (nextOf_at ei (keep e hme hq) hx fun h2 e2 sb => wpAny_pure ?_)
      have hTO2 : TupAt h2 TO ys := sb.extBut _ _ (Ne.symm (D.iTO e hme)) g3
      refine wpAny_bind (wpAny_seqItems hTO2 rfl ?_)
      refine wpAny_bind (updateSeq_tup hTO2 (by rw [g4]; exact D.len) fun h3 hTO3 sb3 => ?_)
      refine wpAny_bind (wpAny_letGo (wpAny_pure ⟨rfl, by omega, h3, ys.set k x, rfl, ?_, hTO3, by rw [List.length_set, g4], fun j e' he'' => ?_, fun c o hc ho => ?_⟩))
      · exact sb3.extBut _ _ (Ne.symm D.TOz) (sb.extBut _ _ (Ne.symm (D.iz e hme)) g2)
      · have hm' := List.mem_of_getElem? he''
        by_cases hjk : j = k
        · subst hjk
          rw [he'] at he''
          cases he''
          rw [if_pos (Nat.lt_succ_self _)]
          exact e2.at fun o q => sb3.extBut _ _ (D.iTO e hme) q
        · have z1 := g6 j e' he''
          have z2 : (if j < k + 1 then i + 1 else i) = (if j < k then i + 1 else i) := by
            by_cases h : j < k
            · rw [if_pos h, if_pos (by omega)]
            · rw [if_neg h, if_neg (by omega)]
          rw [z2]
          exact z1.at fun o q => sb3.extBut _ _ (D.iTO e' hm') (sb.extBut _ _ (D.nd j k e' e he'' he' hjk) q)
      · exact sb3.extBut _ _ (fun q => hc (.inr (.inl q))) (sb.extBut _ _ (fun q => hc (.inr (.inr ⟨e, hme, q⟩))) (g7 c o hc ho))
    · have hkm' : k = m := by omega
      subst hkm'
      rw [hm] at he'
      cases he'
      cases b with
      | false =>
        obtain ⟨xs, hq, hx⟩ := he
        show wpAny _ _ (Builtin.SmallTypes.nextOf (.ref em.it) >>= _) _ _ _
        refine wpAny_bind (nextOf_end hh ei (keep em hme hq) hx fun h2 x hs2 ⟨oe, hoe, hce⟩ => ?_)
        have hz2 : ZRec h2 z TI TO .ellipsis false := hs2 _ _ (Ne.symm (D.iz em hme)) g2
        have hez : x ≠ z := fun q => by subst q; rw [hz2] at hoe; cases hoe; simp at hce
        exact wpAny_setField_rec hz2 (by simp) fun h3 _ hs3 => hE h3 x (fun c o hc ho => hs3.extBut _ _ (fun q => hc (.inl q)) (hs2 _ _ (fun q => hc (.inr (.inr ⟨em, hme, q⟩))) (g7 c o hc ho))) ⟨oe, hs3.extBut _ _ hez hoe, hce⟩
      | true =>
        obtain ⟨hm0, hall⟩ := hb rfl
        subst hm0
        obtain ⟨xs, hq, hx⟩ := he
        show wpAny _ _ (Builtin.SmallTypes.nextOrEnd (.ref em.it)) _ _ _
        refine nextOrEnd_end hh ei (keep em hme hq) hx fun h2 hs2 => ?_
        have hz2 : ZRec h2 z TI TO .ellipsis true := hs2 _ _ (Ne.symm (D.iz em hme)) g2
        refine wpAny_bind (wpAny_setField_rec hz2 (by simp) fun h3 _ hs3 => ?_)
        refine wpAny_bind ?_
        show wpAny _ _ (forIn (((L.map fun e => Value.ref e.it).drop 1).zipIdx 1) PUnit.unit _ >>= _) _ _ _
        refine wpAny_bind ?_
        refine forIn_same (P := fun k s' => ∃ h', s' = { s with heap := h' } ∧ (∀ c o, ¬ ZCh z TO L c → s.heap.get? c = some o → h'.get? c = some o) ∧ ∀ (j : Nat) (e : ZE), k + 1 ≤ j → L[j]? = some e → ItAt h' e.tp e.it e.src i) _ 0 _ ?_ ?_ ?_
        · refine ⟨h3, rfl, fun c o hc ho => hs3.extBut _ _ (fun q => hc (.inl q)) (hs2 _ _ (fun q => hc (.inr (.inr ⟨em, hme, q⟩))) (g7 c o hc ho)), fun j e hj he' => ?_⟩
          have hme' := List.mem_of_getElem? he'
          have z1 := g6 j e he'
          rw [if_neg (Nat.not_lt_zero _)] at z1
          exact z1.at fun o q => hs3.extBut _ _ (D.iz e hme') (hs2 _ _ (D.nd j 0 e em he' hm (by omega)) q)
        · rintro j ⟨a, k⟩ s' hj ⟨h', rfl, f1, f2⟩
          rw [Nat.zero_add] at f2 ⊢
          obtain ⟨e, he', ha⟩ : ∃ e, L[j + 1]? = some e ∧ a = .ref e.it := by
            rw [List.getElem?_zipIdx, List.getElem?_drop, List.getElem?_map, Nat.add_comm 1 j] at hj
            cases hL : L[j + 1]? with
            | none => rw [hL] at hj; cases hj
            | some e => rw [hL] at hj; cases hj; exact ⟨e, rfl, rfl⟩
          subst ha
          have hme' := List.mem_of_getElem? he'
          obtain ⟨xs', hq', hx'⟩ := hall e hme'
          have hq2 : SqAt h' e.tp e.src xs' := hq'.at fun o q => f1 _ _ (fun c => by
            rcases c with c | c | ⟨e', m', c⟩
            · exact D.sz e hme' c
            · exact D.sTO e hme' c
            · exact D.si e hme' e' m' c) q
          refine wpAny_bind (nextOrEnd_end hh (f2 (j + 1) e (by omega) he') hq2 hx' fun h4 hs4 => ?_)
          refine wpAny_pure ⟨rfl, h4, rfl, fun c o hc ho => hs4 _ _ (fun q => hc (.inr (.inr ⟨e, hme', q⟩))) (f1 c o hc ho), fun j' e' hj' he'' => ?_⟩
          exact (f2 j' e' (by omega) he'').at fun o q => hs4 _ _ (D.nd j' (j + 1) e' e he'' he' (by omega)) q
        · rintro s' ⟨h', rfl, f1, _⟩
          refine wpAny_bind (wpAny_rule ?_)
          show wpAny _ _ (newExc (.type "StopIteration") [] >>= _) _ _ _
          refine wpAny_bind ?_
          simp only [newExc, newTuple]
          refine wpAny_bind (wpAny_newObj_type ?_ (by size_fits))
          refine wpAny_bind (m := firstArgMember _ _) (wpAny_of_eq (a := Value.none) (by first | rfl | (simp only [firstArgMember]; rfl)) ?_)
          refine wpAny_newObj_type ?_ (by size_fits)
          simp only [raiseNew]
          refine wpAny_bind (wpAny_handled ?_)
          rw [hh]
          refine wpAny_bind (wpAny_pure (wpAny_throw ?_))
          exact hE _ _ (fun c o hc ho => Heap.get?_push_of_some _ (Heap.get?_push_of_some _ (f1 c o hc ho))) ⟨_, Heap.get?_push_size _ rfl, rfl⟩
  · rintro s' ⟨hkm, _⟩
    exfalso
    have : (L.map fun e => Value.ref e.it).zipIdx.length = L.length := by simp
    omega
theorem next_zip_item {z TI TO : Addr} {L : List ZE} {b : Bool} {i : Nat} {vals : List Value} {Q : Option Value → Shared → Prop} (D : ZSep z TI TO L) (hz : ZRec s.heap z TI TO .none b) (hTI : TupAt s.heap TI (L.map fun e => .ref e.it)) {xs0 : List Value} (hTO : TupAt s.heap TO xs0) (hx0 : xs0.length = L.length)
    (hit : ∀ e ∈ L, ItAt s.heap e.tp e.it e.src i) (hv : vals.length = L.length) (hs : ∀ (k : Nat) (e : ZE), L[k]? = some e → ∃ xs x, SqAt s.heap e.tp e.src xs ∧ xs[i]? = some x ∧ vals[k]? = some x)
    (hQ : ∀ h', ZRec h' z TI TO (rawInt s.heap.objs.size) b → TupAt h' TO vals → (∀ e ∈ L, ItAt h' e.tp e.it e.src (i + 1)) → TupAt h' s.heap.objs.size vals → h'.objs.size = s.heap.objs.size + 1 → (∀ c o, ¬ ZCh z TO L c → s.heap.get? c = some o → h'.get? c = some o) → Q (some (.ref s.heap.objs.size)) { s with heap := h' }) :
    wpAny (model prog w) A (pyNext (.ref z)) Q E s := by
  have hT : s.TypeIs (.ref z) "zip" := ⟨_, hz, rfl⟩
  unfold pyNext
  exact wpAny_bind (wpAny_attempt (wpAny_callSpecial?_slot (name := Str.ofString "__next__") hT F.slot_zip_next
    (wpAny_call_entry F.slot_zip_next hT F.entry_zip_next
      (zip_item D hz hTI hTO hx0 hit hv hs fun h' a1 a2 a3 a4 a5 a6 => wpAny_pure (hQ h' a1 a2 a3 a4 a5 a6)) (F.args_zip_next_1 _))))
theorem next_zip_end {z TI TO : Addr} {L : List ZE} {b : Bool} {i m : Nat} {Q : Option Value → Shared → Prop} (hh : A.handled = none) (D : ZSep z TI TO L) (hz : ZRec s.heap z TI TO .none b) (hTI : TupAt s.heap TI (L.map fun e => .ref e.it)) {xs0 : List Value} (hTO : TupAt s.heap TO xs0) (hx0 : xs0.length = L.length)
    (hit : ∀ e ∈ L, ItAt s.heap e.tp e.it e.src i) {em : ZE} (hm : L[m]? = some em) (hs : ∀ (k : Nat) (e : ZE), k < m → L[k]? = some e → ∃ xs x, SqAt s.heap e.tp e.src xs ∧ xs[i]? = some x) (he : ∃ xs, SqAt s.heap em.tp em.src xs ∧ xs[i]? = none)
    (hb : b = true → m = 0 ∧ ∀ e ∈ L, ∃ xs, SqAt s.heap e.tp e.src xs ∧ xs[i]? = none)
    (hQ : ∀ h', (∀ c o, ¬ ZCh z TO L c → s.heap.get? c = some o → h'.get? c = some o) → Q none { s with heap := h' }) : wpAny (model prog w) A (pyNext (.ref z)) Q E s := by
  have hT : s.TypeIs (.ref z) "zip" := ⟨_, hz, rfl⟩
  unfold pyNext
  refine wpAny_bind (wpAny_attempt (wpAny_callSpecial?_slot (name := Str.ofString "__next__") hT F.slot_zip_next
    (wpAny_call_entry F.slot_zip_next hT F.entry_zip_next (zip_end hh D hz hTI hTO hx0 hit hm hs he hb fun h' e hk he => ?_) (F.args_zip_next_1 _))))
  obtain ⟨o, ho, hc⟩ := he
  refine wpAny_bind (wpAny_isInstance (T := "StopIteration") (b := true) ⟨o, ho, hc⟩ isSubtype_stop ?_)
  exact wpAny_pure (hQ _ hk)
theorem go_zip {elts : List Expr} {x1} {pos : Pos} {z TI TO T : Addr} {b : Bool} {Q : Unit → Shared → Prop} (hz : ZRec s.heap z TI TO (rawInt T) b) (hQ : ∀ h', ZRec h' z TI TO .none b → Heap.SameBut z s.heap h' → Q () { s with heap := h' }) :
    wpAny (model prog w) A (letOwnedTupleGo (.Tuple elts x1 pos) (.ref z) (.ref T)) Q E s := by
  unfold letOwnedTupleGo
  refine wpAny_bind (wpAny_load hz ?_)
  show wpAny _ _ (if (["enumerate", "zip", "dict_itemiterator", "dict_reverseitemiterator", "odict_iterator", "itertools.zip_longest", "itertools.pairwise"].contains "zip" &&
      (#[rawInt T, .bool false, .bool b, .ref TI, .ref TO] : Array Value)[0]? == some (rawInt T)) = true then _ else _) Q E s
  rw [if_pos (by simp)]
  refine wpAny_bind (wpAny_rule ?_)
  show wpAny _ _ (setField (.ref z) 0 .none) Q E s
  exact wpAny_setField_rec hz (by simp) fun h' hz' hs' => hQ h' hz' hs'
theorem iter_zip {z TI TO : Addr} {f0 : Value} {b : Bool} {Q : Value → Shared → Prop} (hz : ZRec s.heap z TI TO f0 b) (h : Q (.ref z) s) : wpAny (model prog w) A (pyIter (.ref z)) Q E s := by
  have hT : s.TypeIs (.ref z) "zip" := ⟨_, hz, rfl⟩
  refine wpAny_pyIter_slot hT F.slot_zip_iter (wpAny_call_entry F.slot_zip_iter hT F.entry_zip_iter ?_ (F.args_zip_iter_1 _))
  show wpAny _ _ (ret (.ref z)) _ _ s
  exact wpAny_pure ⟨_, rfl, "zip", _, hT, F.slot_zip_next.lookup, h⟩
end
/-! the turns -/
abbrev ZS := Bool × Addr
def SqS (K : Fg) (H : Hp) (p : ZS) (xs : List V) : Prop := match p.1 with
  | true => SqT K H p.2 xs
  | false => SqL K H p.2 xs
def Itzn (K : Fg) (b : Bool) (S : List ZS) : It :=
  ⟨fun i H => ∃ vs : List V, vs.length = S.length ∧ ∀ (k : Nat) (p : ZS), S[k]? = some p → ∃ xs x, SqS K H p xs ∧ xs[i]? = some x ∧ vs[k]? = some x,
    fun i H v H' => ∃ T vs, v = .ref T ∧ H T = none ∧ H' = upd H T (.tup vs) ∧ vs.length = S.length ∧ ∀ (k : Nat) (p : ZS) (xs : List V), S[k]? = some p → SqS K H p xs → xs[i]? = vs[k]?,
    fun i H => ∃ (m : Nat) (p : ZS), S[m]? = some p ∧ (∀ (k : Nat) (p' : ZS), k < m → S[k]? = some p' → ∃ xs x, SqS K H p' xs ∧ xs[i]? = some x) ∧ (∃ xs : List V, SqS K H p xs ∧ xs.length ≤ i) ∧ (b = true → m = 0 ∧ ∀ p ∈ S, ∃ xs : List V, SqS K H p xs ∧ xs.length ≤ i)⟩
theorem sqS_get {X : Cx} {pins : List (Addr × Obj)} {σ : L2.St} {H : Hp} {s : Shared} {p : ZS} {xs : List V} (I : Inv X pins σ H s) (h : SqS X.K H p xs) : ∃ its : List Value, Vals xs its ∧ SqAt s.heap p.1 p.2 its.toArray := by
  obtain ⟨tp, a⟩ := p
  cases tp
  · obtain ⟨its, rv, p1, _⟩ := I.list h
    exact ⟨its, rv, p1.isList⟩
  · obtain ⟨its, rv, p1, _⟩ := I.tuple h
    exact ⟨its, rv, p1⟩
theorem sqS_inj {X : Cx} {pins : List (Addr × Obj)} {σ : L2.St} {H : Hp} {s : Shared} {p : ZS} {xs ys : List V} (I : Inv X pins σ H s) (h : SqS X.K H p xs) (h' : SqS X.K H p ys) : xs = ys := by
  obtain ⟨tp, a⟩ := p
  cases tp
  · exact I.list_inj h h'
  · exact I.tuple_inj h h'
theorem turn_zn {P : Program} {w : World} {K : Fg} {elts : List Expr} {kk : Nat} {tpos : Pos} {b : Bool} {z TI TO : Addr} {L : List ZE} (D : ZSep z TI TO L) :
    Turn P w K (.Tuple elts kk tpos) (Itzn K b (L.map fun e => (e.tp, e.src))) (z :: TI :: TO :: L.map (·.it)) z (fun i h => ZRec h z TI TO .none b ∧ TupAt h TI (L.map fun e => .ref e.it) ∧ (∃ xs, TupAt h TO xs ∧ xs.length = L.length) ∧ ∀ e ∈ L, ItAt h e.tp e.it e.src i) where
  mem := by simp
  obj := fun i h st c hc => by
    obtain ⟨hz, hTI, ⟨xs, hTO, _⟩, hi⟩ := st
    rcases List.mem_cons.mp hc with q | hc
    · rw [q]; exact ⟨_, hz, fun v q => nomatch q⟩
    rcases List.mem_cons.mp hc with q | hc
    · rw [q]; exact ⟨_, hTI, fun v q => nomatch q⟩
    rcases List.mem_cons.mp hc with q | hc
    · rw [q]; exact ⟨_, hTO, fun v q => nomatch q⟩
    obtain ⟨e, hm, rfl⟩ := List.mem_map.mp hc
    exact (hi e hm).obj
  keep := fun i h h' st k => by
    obtain ⟨hz, hTI, ⟨xs, hTO, hl⟩, hi⟩ := st
    exact ⟨k z (by simp) _ hz, k TI (by simp) _ hTI, ⟨xs, k TO (by simp) _ hTO, hl⟩, fun e hm => (hi e hm).at fun o q => k e.it (List.mem_cons_of_mem _ (List.mem_cons_of_mem _ (List.mem_cons_of_mem _ (List.mem_map.mpr ⟨e, hm, rfl⟩)))) o q⟩
  item := by
    intro X hP hw hK hc i pins s σ H E I hf st hg
    subst hP hw hK
    obtain ⟨hz, hTI, ⟨xs0, hTO, hx0⟩, hi⟩ := st
    obtain ⟨vs, hvl, hvs⟩ := hg
    rw [List.length_map] at hvl
    -- the values
    have ex : ∀ (k : Nat) (e : ZE), L[k]? = some e → ∃ (its : List Value) (u : Value) (x : V), SqAt s.heap e.tp e.src its.toArray ∧ its[i]? = some u ∧ vs[k]? = some x ∧ RelV x u := fun k e he => by
      obtain ⟨xs, x, hq, hx, hv⟩ := hvs k (e.tp, e.src) (by rw [List.getElem?_map, he]; rfl)
      obtain ⟨its, rv, sq⟩ := sqS_get I hq
      obtain ⟨u, hu, ru⟩ := rv.get hx
      exact ⟨its, u, x, sq, hu, hv, ru⟩
    obtain ⟨us, rus, hus⟩ : ∃ us : List Value, Vals vs us ∧ ∀ (k : Nat) (e : ZE), L[k]? = some e → ∃ its : List Value, SqAt s.heap e.tp e.src its.toArray ∧ ∃ u, its[i]? = some u ∧ us[k]? = some u := by
      have key : ∀ (L' : List ZE) (vs' : List V), vs'.length = L'.length → (∀ (k : Nat) (e : ZE), L'[k]? = some e → ∃ (its : List Value) (u : Value) (x : V), SqAt s.heap e.tp e.src its.toArray ∧ its[i]? = some u ∧ vs'[k]? = some x ∧ RelV x u) →
          ∃ us : List Value, Vals vs' us ∧ ∀ (k : Nat) (e : ZE), L'[k]? = some e → ∃ its : List Value, SqAt s.heap e.tp e.src its.toArray ∧ ∃ u, its[i]? = some u ∧ us[k]? = some u := by
        intro L'
        induction L' with
        | nil =>
          intro vs' hl _
          have : vs' = [] := List.eq_nil_of_length_eq_zero hl
          subst this
          exact ⟨[], .nil, fun k e h => by simp at h⟩
        | cons e L' ih =>
          intro vs' hl h
          cases vs' with
          | nil => cases hl
          | cons v vs' =>
            obtain ⟨us, r, hu⟩ := ih vs' (by simpa using hl) fun k e he => h (k + 1) e (by simpa using he)
            obtain ⟨its, u, x, sq, h1, h2, h3⟩ := h 0 e rfl
            have : v = x := by simpa using h2
            subst this
            refine ⟨u :: us, .cons h3 r, fun k e' he' => ?_⟩
            cases k with
            | zero =>
              have : e = e' := by simpa using he'
              subst this
              exact ⟨its, sq, u, h1, rfl⟩
            | succ k => exact hu k e' (by simpa using he')
      exact key L vs hvl ex
    have hul : us.length = L.length := by rw [← rus.length, hvl]
    have hzl : z < s.heap.objs.size := Heap.lt_size hz
    refine next_zip_item D hz hTI hTO hx0 hi hul (fun k e he => ?_) fun h' z' TO' it' hT hsz hk => ?_
    · obtain ⟨its, sq, u, h1, h2⟩ := hus k e he
      exact ⟨its.toArray, u, sq, by simpa using h1, h2⟩
    refine ⟨_, rfl, go_zip (s := { s with heap := h' }) z' fun h'' z'' sb => ?_⟩
    have hT2 : TupAt h'' s.heap.objs.size us := (sb.2 _ (Nat.ne_of_gt hzl)).trans hT
    have new : ObjOk X.prog X.w (upd H s.heap.objs.size (.tup vs)) h'' s.heap.objs.size (.tup vs) :=
      ⟨sz (by have := D.len; show vs.length ≤ _; omega), us, rus, ⟨_, hT2, rfl, _, rfl⟩⟩
    have nch : ∀ c, c ∉ (z :: TI :: TO :: L.map (·.it)) → ¬ ZCh z TO L c := fun c hc q => by
      rcases q with q | q | ⟨e, hm, q⟩
      · exact hc (by rw [q]; simp)
      · exact hc (by rw [q]; simp)
      · exact hc (by rw [q]; exact List.mem_cons_of_mem _ (List.mem_cons_of_mem _ (List.mem_cons_of_mem _ (List.mem_map.mpr ⟨e, hm, rfl⟩))))
    have I1 : Inv X pins σ (upd H s.heap.objs.size (.tup vs)) { s with heap := h'' } :=
      I.turnedNew (t' := s.toks) (ch := z :: TI :: TO :: L.map (·.it)) (fun c o hb q => (sb.2 c (fun q' => hb (by simp [q']))).trans (hk c o (nch c hb) q)) hf (Nat.le_refl _) new
    refine ⟨.ref s.heap.objs.size, _, I1, rfl, ⟨_, vs, rfl, I.hok.fresh (Nat.le_refl _), rfl, by rw [List.length_map, hvl], fun k p xs hp hq => ?_⟩, ⟨z'', ?_, ⟨us, ?_, hul⟩, fun e hm => ?_⟩, fun c hcm => ?_⟩
    · obtain ⟨xs', x, hq', hx, hv⟩ := hvs k p hp
      rw [sqS_inj I hq hq', hx, hv]
    · refine (sb.2 _ D.TIz).trans (hk _ _ (fun q => ?_) hTI)
      rcases q with q | q | ⟨e, hm, q⟩
      · exact D.TIz q
      · exact D.TITO q
      · exact D.iTI e hm q.symm
    · exact (sb.2 _ D.TOz).trans TO'
    · exact (it' e hm).at fun o q => (sb.2 _ (D.iz e hm)).trans q
    · have hlt : c < s.heap.objs.size := by
        rcases List.mem_cons.mp hcm with q | hcm
        · rw [q]; exact hzl
        rcases List.mem_cons.mp hcm with q | hcm
        · rw [q]; exact Heap.lt_size hTI
        rcases List.mem_cons.mp hcm with q | hcm
        · rw [q]; exact Heap.lt_size hTO
        obtain ⟨e, hm, rfl⟩ := List.mem_map.mp hcm
        exact (hi e hm).lt
      rw [upd_ne (Nat.ne_of_lt hlt)]
      exact (hf c hcm).1
  done := by
    intro X hP hw hK hc i pins s σ H E I hf st hg
    subst hP hw hK
    obtain ⟨hz, hTI, ⟨xs0, hTO, hx0⟩, hi⟩ := st
    obtain ⟨m, p, hm, hbef, ⟨xs, hq, hl⟩, hb⟩ := hg
    rw [List.getElem?_map] at hm
    cases hLm : L[m]? with
    | none => rw [hLm] at hm; cases hm
    | some em =>
      rw [hLm] at hm
      cases hm
      have none_of : ∀ {p : ZS} {xs : List V}, SqS X.K H p xs → xs.length ≤ i → ∃ ys, SqAt s.heap p.1 p.2 ys ∧ ys[i]? = none := fun hq hl => by
        obtain ⟨its, rv, sq⟩ := sqS_get I hq
        exact ⟨its.toArray, sq, by rw [List.getElem?_toArray]; exact List.getElem?_eq_none (by rw [← rv.length]; exact hl)⟩
      refine next_zip_end (I.ok.hd hc) D hz hTI hTO hx0 hi hLm (fun k e hk he => ?_) (none_of hq hl) (fun hbt => ?_) fun h' hk => ⟨rfl, I.turnedL (t' := s.toks) (ch := z :: TI :: TO :: L.map (·.it)) (fun c o hb q => hk c o (fun q' => ?_) q) hf⟩
      · obtain ⟨xs', x, hq', hx⟩ := hbef k (e.tp, e.src) hk (by rw [List.getElem?_map, he]; rfl)
        obtain ⟨its, rv, sq⟩ := sqS_get I hq'
        obtain ⟨u, hu, _⟩ := rv.get hx
        exact ⟨its.toArray, u, sq, by simpa using hu⟩
      · obtain ⟨h0, hall⟩ := hb hbt
        refine ⟨h0, fun e hme => ?_⟩
        obtain ⟨xs', hq', hl'⟩ := hall (e.tp, e.src) (List.mem_map.mpr ⟨e, hme, rfl⟩)
        exact none_of hq' hl'
      · rcases q' with q | q | ⟨e, hme, q⟩
        · exact hb (by rw [q]; simp)
        · exact hb (by rw [q]; simp)
        · exact hb (by rw [q]; exact List.mem_cons_of_mem _ (List.mem_cons_of_mem _ (List.mem_cons_of_mem _ (List.mem_map.mpr ⟨e, hme, rfl⟩))))
  self := fun A i s Q E st h => iter_zip st.1 h
end TL
namespace TL
open PySem PySem.Spec PyProof.Rows L2
/-! ### zip(.., strict=b) begins -/
abbrev stK (b : Bool) : List (Str × Value) := [(Str.ofString "strict", .bool b)]
theorem typeCall_zip2K (a b : Value) (c : Bool) : checkTypeCall "zip" ⟨[a, b], stK c⟩ = pure () := by kernel_rfl
theorem newCall_zip2K (a b : Value) (c : Bool) : checkBuiltinCall "zip.__new__" ⟨[.type "zip", a, b], stK c⟩ = pure () := by kernel_rfl
theorem init_zip2K (obj a b : Value) (c : Bool) : argsOk "object.__init__" ⟨[obj, a, b], stK c⟩ := by unfold argsOk; kernel_rfl
theorem typeCall_zip4K (a b a' b' : Value) (c : Bool) : checkTypeCall "zip" ⟨[a, b, a', b'], stK c⟩ = pure () := by kernel_rfl
theorem newCall_zip4K (a b a' b' : Value) (c : Bool) : checkBuiltinCall "zip.__new__" ⟨[.type "zip", a, b, a', b'], stK c⟩ = pure () := by kernel_rfl
theorem init_zip4K (obj a b a' b' : Value) (c : Bool) : argsOk "object.__init__" ⟨[obj, a, b, a', b'], stK c⟩ := by unfold argsOk; kernel_rfl
def tupO (xs : List Value) : Obj := { cls := .type "tuple", data := .seq xs.toArray }
def zipO (b : Bool) (TI TO : Addr) : Obj := { cls := .type "zip", data := .fields #[.none, .bool false, .bool b, .ref TI, .ref TO] }
/-- the iterator that such a source begins -/
def zIt (tp : Bool) (a : Addr) : Obj := match tp with
  | true => { cls := .type "tuple_iterator", data := .fields #[.ref a, .int 0 0] }
  | false => { cls := .type "list_iterator", data := .fields #[.ref a, .int 0 0] }
theorem zIt_free (tp : Bool) (a : Addr) : (zIt tp a).isFreed = false := by cases tp <;> rfl
theorem zIt_at {h : Heap} {tp : Bool} {it a : Addr} (e : h.get? it = some (zIt tp a)) : ItAt h tp it a 0 := by
  cases tp
  · exact ⟨_, e, rfl, rfl⟩
  · exact ⟨_, e, rfl, rfl⟩
theorem begins_z (tp : Bool) (a : Addr) (xs : Array Value) : Begins (.ref a) (zIt tp a) fun h => SqAt h tp a xs := by
  cases tp
  · exact begins_list a xs
  · exact begins_tuple a xs
def zes : Nat → List ZS → List ZE
  | _, [] => []
  | n, p :: S => ⟨n, p.1, p.2⟩ :: zes (n + 1) S
set_option maxHeartbeats 4000000 in
theorem meets_zip2K {v1 v2 : Value} {o1 o2 : Obj} {H1 H2 : Heap → Prop} (B1 : Begins v1 o1 H1) (B2 : Begins v2 o2 H2) (b : Bool) :
    Meets (Builtin.«zip.__new__» ⟨[.type "zip", v1, v2], stK b⟩) (fun _ R s => (H1 s.heap ∧ H2 s.heap) ∧ R (.ok (.ret (.ref ((((s.heap.push o1).push o2).push (tupO [.ref s.heap.objs.size, .ref (s.heap.push o1).objs.size])).push (tupO [.none, .none])).objs.size))) { s with heap := (((((s.heap.push o1).push o2).push (tupO [.ref s.heap.objs.size, .ref (s.heap.push o1).objs.size])).push (tupO [.none, .none])).push (zipO b ((s.heap.push o1).push o2).objs.size (((s.heap.push o1).push o2).push (tupO [.ref s.heap.objs.size, .ref (s.heap.push o1).objs.size])).objs.size)) }) :=
  .of_wp fun prog w A R s h => by
    obtain ⟨hp, g, d, tk, os⟩ := s; obtain ⟨⟨h1, h2⟩, h⟩ := h
    have hsub := sub_zip
    have q1 : ∀ {A' : Around} {E : Value → Shared → Prop} {Q : Value → Shared → Prop}, Q (.ref hp.objs.size) ⟨(hp.push o1), g, d, tk, os⟩ → wpAny (model prog w) A' (pyIter v1) Q E ⟨hp, g, d, tk, os⟩ :=
      fun q => B1.iter prog w _ _ ⟨hp, g, d, tk, os⟩ _ (B1.keeps _ _ h1 fun c o e => e) q
    have q2 : ∀ {A' : Around} {E : Value → Shared → Prop} {Q : Value → Shared → Prop}, Q (.ref (hp.push o1).objs.size) ⟨((hp.push o1).push o2), g, d, tk, os⟩ → wpAny (model prog w) A' (pyIter v2) Q E ⟨(hp.push o1), g, d, tk, os⟩ :=
      fun q => B2.iter prog w _ _ ⟨(hp.push o1), g, d, tk, os⟩ _ (B2.keeps _ _ h2 fun c o e => (Heap.get?_push_of_some _ e)) q
    have e1 : (Str.ofString "strict" == ("strict" : Str)) = true := by decide +kernel
    have e2 : (Str.ofString "strict" != ("strict" : Str)) = false := by decide +kernel
    wp_walk using q1, q2
    exact ⟨_, rfl, h⟩
theorem call_zip2K {prog : Program} {w : World} {A : Around} {E : Value → Shared → Prop} {s : Shared} {S : List ZS} (hS : S.length = 2) (b : Bool) {Q : Value → Shared → Prop} (hs : ∀ p ∈ S, ∃ xs, SqAt s.heap p.1 p.2 xs)
    (h : ∀ h', ZRec h' (s.heap.objs.size + 4) (s.heap.objs.size + 2) (s.heap.objs.size + 3) .none b → TupAt h' (s.heap.objs.size + 2) ((zes s.heap.objs.size S).map fun e => .ref e.it) → (∃ xs, TupAt h' (s.heap.objs.size + 3) xs ∧ xs.length = S.length) → (∀ e ∈ zes s.heap.objs.size S, ItAt h' e.tp e.it e.src 0) → h'.objs.size = s.heap.objs.size + 5 → (∀ c o, s.heap.get? c = some o → h'.get? c = some o) → Q (.ref (s.heap.objs.size + 4)) { s with heap := h' }) :
    wpAny (model prog w) A (call (.type "zip") (S.map fun p => .ref p.2) (stK b)) Q E s := by
  obtain ⟨p1, p2, rfl⟩ : ∃ p1 p2, S = [p1, p2] := by
    match S, hS with
    | [p1, p2], _ => exact ⟨_, _, rfl⟩
  obtain ⟨xs1, g1⟩ := hs p1 (by simp)
  obtain ⟨xs2, g2⟩ := hs p2 (by simp)
  show wpAny _ _ (call (.type "zip") [.ref p1.2, .ref p2.2] (stK b)) _ _ _
  refine callType_newKw F.called_zip (by decide) (typeCall_zip2K _ _ _) (newCall_zip2K _ _ _) (fun obj => init_zip2K obj _ _ _) F.entry_zip_new (meets_zip2K (begins_z p1.1 p1.2 xs1) (begins_z p2.1 p2.2 xs2) b) ⟨⟨g1, g2⟩, ?_⟩
  have z1 : (s.heap.push (zIt p1.1 p1.2)).objs.size = s.heap.objs.size + 1 := by rw [Heap.size_push]
  have z2 : ((s.heap.push (zIt p1.1 p1.2)).push (zIt p2.1 p2.2)).objs.size = s.heap.objs.size + 2 := by rw [Heap.size_push, z1]
  have zT : (((s.heap.push (zIt p1.1 p1.2)).push (zIt p2.1 p2.2)).push (tupO [.ref s.heap.objs.size, .ref (s.heap.push (zIt p1.1 p1.2)).objs.size])).objs.size = s.heap.objs.size + 3 := by rw [Heap.size_push, z2]
  have zO : ((((s.heap.push (zIt p1.1 p1.2)).push (zIt p2.1 p2.2)).push (tupO [.ref s.heap.objs.size, .ref (s.heap.push (zIt p1.1 p1.2)).objs.size])).push (tupO [.none, .none])).objs.size = s.heap.objs.size + 4 := by rw [Heap.size_push, zT]
  have zZ : (((((s.heap.push (zIt p1.1 p1.2)).push (zIt p2.1 p2.2)).push (tupO [.ref s.heap.objs.size, .ref (s.heap.push (zIt p1.1 p1.2)).objs.size])).push (tupO [.none, .none])).push (zipO b ((s.heap.push (zIt p1.1 p1.2)).push (zIt p2.1 p2.2)).objs.size (((s.heap.push (zIt p1.1 p1.2)).push (zIt p2.1 p2.2)).push (tupO [.ref s.heap.objs.size, .ref (s.heap.push (zIt p1.1 p1.2)).objs.size])).objs.size)).objs.size = s.heap.objs.size + 5 := by rw [Heap.size_push, zO]
  have gZ : Heap.get? (((((s.heap.push (zIt p1.1 p1.2)).push (zIt p2.1 p2.2)).push (tupO [.ref s.heap.objs.size, .ref (s.heap.push (zIt p1.1 p1.2)).objs.size])).push (tupO [.none, .none])).push (zipO b ((s.heap.push (zIt p1.1 p1.2)).push (zIt p2.1 p2.2)).objs.size (((s.heap.push (zIt p1.1 p1.2)).push (zIt p2.1 p2.2)).push (tupO [.ref s.heap.objs.size, .ref (s.heap.push (zIt p1.1 p1.2)).objs.size])).objs.size)) ((((s.heap.push (zIt p1.1 p1.2)).push (zIt p2.1 p2.2)).push (tupO [.ref s.heap.objs.size, .ref (s.heap.push (zIt p1.1 p1.2)).objs.size])).push (tupO [.none, .none])).objs.size = some (zipO b ((s.heap.push (zIt p1.1 p1.2)).push (zIt p2.1 p2.2)).objs.size (((s.heap.push (zIt p1.1 p1.2)).push (zIt p2.1 p2.2)).push (tupO [.ref s.heap.objs.size, .ref (s.heap.push (zIt p1.1 p1.2)).objs.size])).objs.size) := Heap.get?_push_size _ rfl
  have gO : Heap.get? (((((s.heap.push (zIt p1.1 p1.2)).push (zIt p2.1 p2.2)).push (tupO [.ref s.heap.objs.size, .ref (s.heap.push (zIt p1.1 p1.2)).objs.size])).push (tupO [.none, .none])).push (zipO b ((s.heap.push (zIt p1.1 p1.2)).push (zIt p2.1 p2.2)).objs.size (((s.heap.push (zIt p1.1 p1.2)).push (zIt p2.1 p2.2)).push (tupO [.ref s.heap.objs.size, .ref (s.heap.push (zIt p1.1 p1.2)).objs.size])).objs.size)) (((s.heap.push (zIt p1.1 p1.2)).push (zIt p2.1 p2.2)).push (tupO [.ref s.heap.objs.size, .ref (s.heap.push (zIt p1.1 p1.2)).objs.size])).objs.size = some (tupO [.none, .none]) := Heap.get?_push_of_some _ (Heap.get?_push_size _ rfl)
  have gT : Heap.get? (((((s.heap.push (zIt p1.1 p1.2)).push (zIt p2.1 p2.2)).push (tupO [.ref s.heap.objs.size, .ref (s.heap.push (zIt p1.1 p1.2)).objs.size])).push (tupO [.none, .none])).push (zipO b ((s.heap.push (zIt p1.1 p1.2)).push (zIt p2.1 p2.2)).objs.size (((s.heap.push (zIt p1.1 p1.2)).push (zIt p2.1 p2.2)).push (tupO [.ref s.heap.objs.size, .ref (s.heap.push (zIt p1.1 p1.2)).objs.size])).objs.size)) ((s.heap.push (zIt p1.1 p1.2)).push (zIt p2.1 p2.2)).objs.size = some (tupO [.ref s.heap.objs.size, .ref (s.heap.push (zIt p1.1 p1.2)).objs.size]) := Heap.get?_push_of_some _ (Heap.get?_push_of_some _ (Heap.get?_push_size _ rfl))
  have k1 : Heap.get? (((((s.heap.push (zIt p1.1 p1.2)).push (zIt p2.1 p2.2)).push (tupO [.ref s.heap.objs.size, .ref (s.heap.push (zIt p1.1 p1.2)).objs.size])).push (tupO [.none, .none])).push (zipO b ((s.heap.push (zIt p1.1 p1.2)).push (zIt p2.1 p2.2)).objs.size (((s.heap.push (zIt p1.1 p1.2)).push (zIt p2.1 p2.2)).push (tupO [.ref s.heap.objs.size, .ref (s.heap.push (zIt p1.1 p1.2)).objs.size])).objs.size)) s.heap.objs.size = some (zIt p1.1 p1.2) := (Heap.get?_push_of_some _ (Heap.get?_push_of_some _ (Heap.get?_push_of_some _ (Heap.get?_push_of_some _ (Heap.get?_push_size _ (zIt_free _ _))))))
  have k2 : Heap.get? (((((s.heap.push (zIt p1.1 p1.2)).push (zIt p2.1 p2.2)).push (tupO [.ref s.heap.objs.size, .ref (s.heap.push (zIt p1.1 p1.2)).objs.size])).push (tupO [.none, .none])).push (zipO b ((s.heap.push (zIt p1.1 p1.2)).push (zIt p2.1 p2.2)).objs.size (((s.heap.push (zIt p1.1 p1.2)).push (zIt p2.1 p2.2)).push (tupO [.ref s.heap.objs.size, .ref (s.heap.push (zIt p1.1 p1.2)).objs.size])).objs.size)) (s.heap.push (zIt p1.1 p1.2)).objs.size = some (zIt p2.1 p2.2) := (Heap.get?_push_of_some _ (Heap.get?_push_of_some _ (Heap.get?_push_of_some _ (Heap.get?_push_size _ (zIt_free _ _)))))
  have kk : ∀ c o, s.heap.get? c = some o → Heap.get? (((((s.heap.push (zIt p1.1 p1.2)).push (zIt p2.1 p2.2)).push (tupO [.ref s.heap.objs.size, .ref (s.heap.push (zIt p1.1 p1.2)).objs.size])).push (tupO [.none, .none])).push (zipO b ((s.heap.push (zIt p1.1 p1.2)).push (zIt p2.1 p2.2)).objs.size (((s.heap.push (zIt p1.1 p1.2)).push (zIt p2.1 p2.2)).push (tupO [.ref s.heap.objs.size, .ref (s.heap.push (zIt p1.1 p1.2)).objs.size])).objs.size)) c = some o := fun c o e => (Heap.get?_push_of_some _ (Heap.get?_push_of_some _ (Heap.get?_push_of_some _ (Heap.get?_push_of_some _ (Heap.get?_push_of_some _ e)))))
  obtain ⟨hZ, hhZ⟩ : ∃ hZ, hZ = (((((s.heap.push (zIt p1.1 p1.2)).push (zIt p2.1 p2.2)).push (tupO [.ref s.heap.objs.size, .ref (s.heap.push (zIt p1.1 p1.2)).objs.size])).push (tupO [.none, .none])).push (zipO b ((s.heap.push (zIt p1.1 p1.2)).push (zIt p2.1 p2.2)).objs.size (((s.heap.push (zIt p1.1 p1.2)).push (zIt p2.1 p2.2)).push (tupO [.ref s.heap.objs.size, .ref (s.heap.push (zIt p1.1 p1.2)).objs.size])).objs.size)) := ⟨_, rfl⟩
  rw [← hhZ] at zZ gZ gO gT kk k1 k2
  rw [zO, zT, z2] at gZ
  rw [zT] at gO
  rw [z2, z1] at gT
  rw [z1] at k2
  show _ ∧ _
  rw [← hhZ, zO]
  refine ⟨⟨_, gZ, rfl⟩, h _ gZ gT ⟨_, gO, rfl⟩ (fun e hm => ?_) zZ kk⟩
  have hm : e ∈ [(⟨s.heap.objs.size + 0, p1.1, p1.2⟩ : ZE), (⟨s.heap.objs.size + 1, p2.1, p2.2⟩ : ZE)] := hm
  rcases List.mem_cons.mp hm with rfl | hm
  · exact zIt_at k1
  rcases List.mem_cons.mp hm with rfl | hm
  · exact zIt_at k2
  exact nomatch hm
end TL
namespace TL
open PySem PySem.Spec PyProof.Rows L2
/-! ### zip as an iteration -/
section
variable {M : Model} {A : Around} {E : Value → Shared → Prop} {s : Shared} {env : Env}
theorem callWith_typeK {pos : Pos} {T : String} {e : Expr} {rest : List Expr} {kws : List Keyword} {Q : Value → Shared → Prop}
    (h : wpAny M A (spliced (backTo pos (starEach (e :: rest) env))) (fun vs s₁ => wpAny M A (evalAll ((backToKw pos (keywordEach kws env)).map (·.2)))
      (fun kvs s₂ => wpAny M A (call (.type T) vs (((backToKw pos (keywordEach kws env)).filterMap (·.1)).zip kvs)) Q E s₂) E s₁) E s)
    (he : backTo pos (starEach (e :: rest) env) = (false, eval e env) :: backTo pos (starEach rest env)) (hplain : (backTo pos (starEach (e :: rest) env)).any (·.1) = false)
    (hall : (backToKw pos (keywordEach kws env)).all (·.1.isSome) = true) (hkw : (backToKw pos (keywordEach kws env)).any (·.1.isNone) = false) :
    wpAny M A (callWith pos (.type T) [] (backTo pos (starEach (e :: rest) env)) (backToKw pos (keywordEach kws env))) Q E s := by
  have h2 : wpAny M A (evalArgs (.type T) true (backTo pos (starEach (e :: rest) env)) (backToKw pos (keywordEach kws env))) (fun a s₁ => wpAny M A (call (.type T) ([] ++ a.pos) a.kw) Q E s₁) E s := by
    rw [he] at h ⊢
    exact evalArgs_kwB hall h
  unfold callWith
  refine wpAny_bind (wpAny_holding (wpAny_mono h2 (fun a s₁ h₁ => wpAny_bind (wpAny_standAt ?_)) fun _ _ x => x))
  simp only [hplain, hkw, Bool.or_false]
  refine wpAny_bind (wpAny_pure ?_)
  exact wpAny_bind (wpAny_mono h₁ (fun r s₂ hr => wpAny_bind (wpAny_holding (wpAny_point (wpAny_pure hr)))) fun _ _ x => x)
end
theorem zes_get : ∀ (m : Nat) (S : List ZS) (k : Nat), (zes m S)[k]? = S[k]?.map fun p => ⟨m + k, p.1, p.2⟩
  | _, [], k => by simp [zes]
  | m, p :: S, 0 => by simp [zes]
  | m, p :: S, k + 1 => by
    simp only [zes, List.getElem?_cons_succ, zes_get (m + 1) S k]
    congr 1
    funext q
    rw [show m + 1 + k = m + (k + 1) by omega]
theorem zes_len : ∀ (m : Nat) (S : List ZS), (zes m S).length = S.length
  | _, [] => rfl
  | m, p :: S => by simp [zes, zes_len (m + 1) S]
theorem zes_map : ∀ (m : Nat) (S : List ZS), (zes m S).map (fun e => (e.tp, e.src)) = S
  | _, [] => rfl
  | m, p :: S => by simp [zes, zes_map (m + 1) S]
theorem zes_mem {m : Nat} {S : List ZS} {e : ZE} (h : e ∈ zes m S) : ∃ (k : Nat) (p : ZS), S[k]? = some p ∧ e = ⟨m + k, p.1, p.2⟩ ∧ k < S.length := by
  obtain ⟨k, hk⟩ := List.getElem?_of_mem h
  rw [zes_get] at hk
  cases hp : S[k]? with
  | none => rw [hp] at hk; cases hk
  | some p =>
    rw [hp] at hk
    cases hk
    exact ⟨k, p, hp, rfl, (List.getElem?_eq_some_iff.mp hp).1⟩
theorem SqAt.lt {h : Heap} {tp : Bool} {a : Addr} {xs : Array Value} (x : SqAt h tp a xs) : a < h.objs.size := by
  cases tp
  · obtain ⟨o, e, _⟩ := x; exact Heap.lt_size e
  · obtain ⟨o, e, _⟩ := x; exact Heap.lt_size e
/-- what a call of zip with the keyword strict lays -/
def ZCall (n : Nat) : Prop := ∀ {prog : Program} {w : World} {A : Around} {E : Value → Shared → Prop} {s : Shared} {S : List ZS}, S.length = n → ∀ (b : Bool) {Q : Value → Shared → Prop}, (∀ p ∈ S, ∃ xs, SqAt s.heap p.1 p.2 xs) →
  (∀ h', ZRec h' (s.heap.objs.size + (n + 2)) (s.heap.objs.size + n) (s.heap.objs.size + (n + 1)) .none b → TupAt h' (s.heap.objs.size + n) ((zes s.heap.objs.size S).map fun e => .ref e.it) → (∃ xs, TupAt h' (s.heap.objs.size + (n + 1)) xs ∧ xs.length = S.length) →
    (∀ e ∈ zes s.heap.objs.size S, ItAt h' e.tp e.it e.src 0) → h'.objs.size = s.heap.objs.size + (n + 3) → (∀ c o, s.heap.get? c = some o → h'.get? c = some o) → Q (.ref (s.heap.objs.size + (n + 2))) { s with heap := h' }) →
  wpAny (model prog w) A (call (.type "zip") (S.map fun p => .ref p.2) (stK b)) Q E s
theorem zcall2 : ZCall 2 := fun hS b Q hs h => call_zip2K hS b hs h
theorem zsep {n m : Nat} {S : List ZS} (hn : S.length = n) (h0 : 0 < n) (h1 : n ≤ 1000) (hs : ∀ p ∈ S, p.2 < m) : ZSep (m + (n + 2)) (m + n) (m + (n + 1)) (zes m S) where
  TIz := by show (m + n : Nat) ≠ m + (n + 2); omega
  TOz := by show (m + (n + 1) : Nat) ≠ m + (n + 2); omega
  TITO := by show (m + n : Nat) ≠ m + (n + 1); omega
  iz := fun e he => by obtain ⟨k, p, _, rfl, hk⟩ := zes_mem he; rw [hn] at hk; show (m + k : Nat) ≠ m + (n + 2); omega
  iTI := fun e he => by obtain ⟨k, p, _, rfl, hk⟩ := zes_mem he; rw [hn] at hk; show (m + k : Nat) ≠ m + n; omega
  iTO := fun e he => by obtain ⟨k, p, _, rfl, hk⟩ := zes_mem he; rw [hn] at hk; show (m + k : Nat) ≠ m + (n + 1); omega
  nd := fun j k e e' hj hk hjk => by
    rw [zes_get] at hj hk
    cases hp : S[j]? with
    | none => rw [hp] at hj; cases hj
    | some p =>
      cases hq : S[k]? with
      | none => rw [hq] at hk; cases hk
      | some q =>
        rw [hp] at hj
        rw [hq] at hk
        cases hj
        cases hk
        show (m + j : Nat) ≠ m + k
        omega
  sz := fun e he => by obtain ⟨k, p, hp, rfl, hk⟩ := zes_mem he; exact Nat.ne_of_lt (Nat.lt_of_lt_of_le (hs p (List.mem_of_getElem? hp)) (Nat.le_add_right _ _))
  sTO := fun e he => by obtain ⟨k, p, hp, rfl, hk⟩ := zes_mem he; exact Nat.ne_of_lt (Nat.lt_of_lt_of_le (hs p (List.mem_of_getElem? hp)) (Nat.le_add_right _ _))
  si := fun e he e' he' => by
    obtain ⟨k, p, hp, rfl, hk⟩ := zes_mem he
    obtain ⟨k', p', hp', rfl, hk'⟩ := zes_mem he'
    exact Nat.ne_of_lt (Nat.lt_of_lt_of_le (hs p (List.mem_of_getElem? hp)) (Nat.le_add_right _ _))
  ne := fun z => by have := zes_len m S; rw [z] at this; simp at this; omega
  len := by rw [zes_len]; omega
section
variable {X : Cx} {e e1 e2 : Expr} {es : List Expr} {kws : List Keyword} {ta : TA} {p pos tpos : Pos} {elts : List Expr} {kk : Nat} {K : Fg}
theorem pi_zipK {n : Nat} (Z : ZCall n) (h0 : 0 < n) (h1 : n ≤ 1000) (b : Bool) (ha : PA X (e :: es) ta) (hk : PK X kws (fun σ H Q => Q [.bl b] H)) (hg : Gl X "zip") (hm : X.mg "zip" = none)
    (hs : backTo pos (starEach (e :: es) X.env) = (false, eval e X.env) :: backTo pos (starEach es X.env)) (hpl : (backTo pos (starEach (e :: es) X.env)).any (·.1) = false)
    (hall : (backToKw pos (keywordEach kws X.env)).all (·.1.isSome) = true) (hkw : (backToKw pos (keywordEach kws X.env)).any (·.1.isNone) = false) (hks : (backToKw pos (keywordEach kws X.env)).filterMap (·.1) = [Str.ofString "strict"]) :
    PI X (.Tuple elts kk tpos) (.Call (.Name "zip" p) (e :: es) kws pos) (fun σ H R => ta σ H fun vs H1 => ∃ S : List ZS, vs = S.map (fun q => V.ref q.2) ∧ S.length = n ∧ (∀ q ∈ S, ∃ xs, SqS X.K H1 q xs) ∧ R (Itzn X.K b S) H1) := by
  refine ⟨fun pins s σ H R I h => ?_⟩
  refine wpAny_Call_Name_kw (ld_blt I hg hm PyProof.Rows.boot_zip (callWith_typeK (thn (ha.run pos pins s σ H _ I h) fun us s1 ⟨vs, H1, I1, r1, q1⟩ => ?_) hs hpl hall hkw))
  refine thn (hk.run pos pins s1 σ H1 (fun zs H2 => zs = [.bl b] ∧ H2 = H1) I1 ⟨rfl, rfl⟩) fun ws s2 ⟨zs, H2, I2, r2, hz, hH⟩ => ?_
  subst hz hH
  obtain ⟨S, rfl, hl, hS, q⟩ := q1
  have hus : us = S.map fun q => Value.ref q.2 := by
    have key : ∀ (S : List ZS) (us : List Value), Vals (S.map fun q => V.ref q.2) us → us = S.map fun q => Value.ref q.2 := by
      intro S
      induction S with
      | nil => intro us r; cases r; rfl
      | cons p S ih =>
        intro us r
        cases r with
        | cons h t =>
          cases h
          rw [ih _ t]
          rfl
    exact key S us r1
  subst hus
  have hws : ws = [.bool b] := by
    cases r2 with
    | cons h t => cases t; cases h; rfl
  subst hws
  rw [hks]
  have hsq : ∀ q ∈ S, ∃ xs, SqAt s2.heap q.1 q.2 xs := fun q hq => by
    obtain ⟨xs, hx⟩ := hS q hq
    obtain ⟨its, _, sq⟩ := sqS_get I2 hx
    exact ⟨_, sq⟩
  refine Z hl b hsq fun h' hz hTI hTO hit hsz hkp => iter_zip hz ?_
  have I3 : Inv X pins σ H2 { s2 with heap := h' } := I2.kept (t' := s2.toks) hkp
  have D : ZSep (s2.heap.objs.size + (n + 2)) (s2.heap.objs.size + n) (s2.heap.objs.size + (n + 1)) (zes s2.heap.objs.size S) := zsep hl h0 h1 fun q hq => by
    obtain ⟨xs, sq⟩ := hsq q hq
    exact sq.lt
  have T := turn_zn (P := X.prog) (w := X.w) (K := X.K) (elts := elts) (kk := kk) (tpos := tpos) (b := b) D
  rw [zes_map] at T
  refine ⟨_, _, _, _, H2, rfl, I3, T, ⟨hz, hTI, by rw [zes_len]; exact hTO, hit⟩, fun c hcm => ?_, q⟩
  have hle : s2.heap.objs.size ≤ c := by
    rcases List.mem_cons.mp hcm with r | hcm
    · rw [r]; exact Nat.le_add_right _ _
    rcases List.mem_cons.mp hcm with r | hcm
    · rw [r]; exact Nat.le_add_right _ _
    rcases List.mem_cons.mp hcm with r | hcm
    · rw [r]; exact Nat.le_add_right _ _
    obtain ⟨e, he, rfl⟩ := List.mem_map.mp hcm
    obtain ⟨k, p, _, rfl, _⟩ := zes_mem he
    exact Nat.le_add_right _ _
  exact I2.fpOk hle (I2.hok.fresh hle)
/-! .. over trees -/
theorem Gr.sqS {F F' : Hp} (g : Gr F F') {p : ZS} {vs : List V} (h : SqS K F p vs) : SqS K F' p vs := by
  obtain ⟨tp, a⟩ := p
  cases tp
  · exact g.sqL h
  · exact g.sqT h
theorem Sub.sqS {F H : Hp} (s : Sub F H) {p : ZS} {vs : List V} (h : SqS K F p vs) : SqS K H p vs := by
  obtain ⟨tp, a⟩ := p
  cases tp
  · exact s.sqL h
  · exact s.sqT h
def sqsD : List D → Option (List (List D))
  | [] => some []
  | .list ds :: r => (sqsD r).map (ds :: ·)
  | .tuple ds :: r => (sqsD r).map (ds :: ·)
  | _ => none
inductive ZR (K : Fg) (F : Hp) : List ZS → List (List D) → Prop
  | nil : ZR K F [] []
  | cons {p : ZS} {S : List ZS} {ds : List D} {dss : List (List D)} {vs : List V} : SqS K F p vs → Reps K F vs ds → ZR K F S dss → ZR K F (p :: S) (ds :: dss)
theorem ZR.len {F : Hp} : ∀ {S : List ZS} {dss : List (List D)}, ZR K F S dss → S.length = dss.length
  | _, _, .nil => rfl
  | _, _, .cons _ _ t => congrArg (· + 1) t.len
theorem ZR.get {F : Hp} : ∀ {S : List ZS} {dss : List (List D)}, ZR K F S dss → ∀ {k : Nat} {p : ZS}, S[k]? = some p → ∃ ds vs, dss[k]? = some ds ∧ SqS K F p vs ∧ Reps K F vs ds
  | _, _, .nil, k, p, h => by simp at h
  | _, _, .cons q r t, 0, p, h => by cases h; exact ⟨_, _, rfl, q, r⟩
  | _, _, .cons q r t, k + 1, p, h => by
    obtain ⟨ds, vs, h1, h2, h3⟩ := t.get (k := k) (by simpa using h)
    exact ⟨ds, vs, by simpa using h1, h2, h3⟩
theorem zr_of {F : Hp} : ∀ {xs : List D} {vs : List V} {dss : List (List D)}, Reps K F vs xs → sqsD xs = some dss → ∃ S : List ZS, vs = S.map (fun q => V.ref q.2) ∧ ZR K F S dss
  | [], _, dss, .nil, h => by cases h; exact ⟨[], rfl, .nil⟩
  | x :: xs, _, dss, .cons r t, h => by
    cases x with
    | list ds =>
      simp only [sqsD, Option.map_eq_some_iff] at h
      obtain ⟨d2, h1, rfl⟩ := h
      obtain ⟨S, rfl, z⟩ := zr_of t h1
      cases r with
      | lst e q => exact ⟨(false, _) :: S, rfl, .cons (.inl (.inl e)) q z⟩
    | tuple ds =>
      simp only [sqsD, Option.map_eq_some_iff] at h
      obtain ⟨d2, h1, rfl⟩ := h
      obtain ⟨S, rfl, z⟩ := zr_of t h1
      cases r with
      | tup e q => exact ⟨(true, _) :: S, rfl, .cons (.inl (.inl e)) q z⟩
    | _ => simp [sqsD] at h
/-- the tuples that a zip tells -/
def zipD (m : Nat) (dss : List (List D)) : List D := (List.range m).map fun i => .tuple (dss.map fun ds => ds.getD i .none)
def zipC (b : Bool) (xs : List D) (G : List D → Prop) : Prop := ∃ dss m, sqsD xs = some dss ∧ (∀ ds ∈ dss, m ≤ ds.length) ∧ (∃ ds ∈ dss, ds.length = m) ∧ (b = true → ∀ ds ∈ dss, ds.length = m) ∧ G (zipD m dss)
theorem walks_zip {B : Bs} {F : Hp} {b : Bool} {S : List ZS} {dss : List (List D)} {m : Nat} (z : ZR K F S dss) (h1 : ∀ ds ∈ dss, m ≤ ds.length) (h2 : ∃ ds ∈ dss, ds.length = m) (h3 : b = true → ∀ ds ∈ dss, ds.length = m) (hl : S.length ≤ 1000) : Walks K B (Itzn K b S) F (zipD m dss) where
  stop := fun F' Ω H i g x hi => by
    have hm : m ≤ i := by simpa [zipD] using hi
    -- the first that has ended
    have ex : ∃ k : Nat, ∃ p ds, S[k]? = some p ∧ dss[k]? = some ds ∧ ds.length ≤ i := by
      obtain ⟨ds, hd, hdl⟩ := h2
      obtain ⟨k, hk⟩ := List.getElem?_of_mem hd
      have hkl : k < S.length := by rw [z.len]; exact (List.getElem?_eq_some_iff.mp hk).1
      exact ⟨k, _, ds, List.getElem?_eq_getElem hkl, hk, by omega⟩
    have least : ∀ n : Nat, ∀ k : Nat, k ≤ n → (∃ p ds, S[k]? = some p ∧ dss[k]? = some ds ∧ ds.length ≤ i) → ∃ k : Nat, (∃ p ds, S[k]? = some p ∧ dss[k]? = some ds ∧ ds.length ≤ i) ∧ ∀ j, j < k → ¬ ∃ p ds, S[j]? = some p ∧ dss[j]? = some ds ∧ ds.length ≤ i := by
      intro n
      induction n with
      | zero => intro k hk h; exact ⟨k, h, fun j hj => absurd hj (by omega)⟩
      | succ n ih =>
        intro k hk h
        by_cases q : ∃ j, j < k ∧ ∃ p ds, S[j]? = some p ∧ dss[j]? = some ds ∧ ds.length ≤ i
        · obtain ⟨j, hj, hjp⟩ := q
          exact ih j (by omega) hjp
        · exact ⟨k, h, fun j hj hjp => q ⟨j, hj, hjp⟩⟩
    obtain ⟨k0, hk0⟩ := ex
    obtain ⟨k, ⟨p, ds, hp, hds, hle⟩, hbef⟩ := least k0 k0 (Nat.le_refl _) hk0
    obtain ⟨ds', vs, e1, q, r⟩ := z.get hp
    rw [hds] at e1
    cases e1
    refine ⟨k, p, hp, fun j p' hj hp' => ?_, ⟨vs, x.wd.sub.sqS (g.sqS q), by rw [r.length]; exact hle⟩, fun hb => ⟨?_, fun p' hp' => ?_⟩⟩
    · obtain ⟨ds', vs', e1, q', r'⟩ := z.get hp'
      have hlt : i < ds'.length := by
        by_cases h : ds'.length ≤ i
        · exact absurd ⟨p', ds', hp', e1, h⟩ (hbef j hj)
        · omega
      have hv : i < vs'.length := by rw [r'.length]; exact hlt
      exact ⟨vs', vs'[i], x.wd.sub.sqS (g.sqS q'), List.getElem?_eq_getElem hv⟩
    · by_cases hk : k = 0
      · exact hk
      · exfalso
        have h0 : 0 < S.length := by have := (List.getElem?_eq_some_iff.mp hp).1; omega
        obtain ⟨ds', vs', e1, q', r'⟩ := z.get (List.getElem?_eq_getElem h0)
        exact hbef 0 (by omega) ⟨_, ds', List.getElem?_eq_getElem h0, e1, by rw [h3 hb ds' (List.mem_of_getElem? e1)]; exact hm⟩
    · obtain ⟨j, hj⟩ := List.getElem?_of_mem hp'
      obtain ⟨ds', vs', e1, q', r'⟩ := z.get hj
      exact ⟨vs', x.wd.sub.sqS (g.sqS q'), by rw [r'.length, h3 hb ds' (List.mem_of_getElem? e1)]; exact hm⟩
  go := fun F' Ω H i g x hi => by
    have hm : i < m := by simpa [zipD] using hi
    have key : ∀ {S : List ZS} {dss : List (List D)}, ZR K F S dss → (∀ ds ∈ dss, m ≤ ds.length) → ∃ vs : List V, vs.length = S.length ∧ ∀ (k : Nat) (p : ZS), S[k]? = some p → ∃ xs x, SqS K H p xs ∧ xs[i]? = some x ∧ vs[k]? = some x := by
      intro S dss z
      induction z with
      | nil => intro _; exact ⟨[], rfl, fun k p h => by simp at h⟩
      | cons q r t ih =>
        rename_i p S ds dss vs
        intro h
        obtain ⟨us, hu1, hu2⟩ := ih fun d md => h d (List.mem_cons_of_mem _ md)
        have hl : i < vs.length := by rw [r.length]; have := h ds List.mem_cons_self; omega
        refine ⟨vs[i] :: us, by simp [hu1], fun k p' hk => ?_⟩
        cases k with
        | zero =>
          cases hk
          exact ⟨vs, vs[i], x.wd.sub.sqS (g.sqS q), List.getElem?_eq_getElem hl, rfl⟩
        | succ k => exact hu2 k p' (by simpa using hk)
    exact key z h1
  yld := fun F' Ω H i y H1 d g ex hd ⟨T, us, e1, hT, e2, hul, hus⟩ => by
    subst e1 e2
    have hm : i < m ∧ d = .tuple (dss.map fun ds => ds.getD i .none) := by
      unfold zipD at hd
      rw [List.getElem?_map] at hd
      cases hr : (List.range m)[i]? with
      | none => rw [hr] at hd; cases hd
      | some j =>
        rw [hr] at hd
        have := List.getElem?_eq_some_iff.mp hr
        obtain ⟨hl, hj⟩ := this
        rw [List.length_range] at hl
        rw [List.getElem_range] at hj
        subst hj
        cases hd
        exact ⟨hl, rfl⟩
    obtain ⟨hm, rfl⟩ := hm
    have key : ∀ {S : List ZS} {dss : List (List D)} {us : List V}, ZR K F S dss → (∀ ds ∈ dss, m ≤ ds.length) → us.length = S.length → (∀ (k : Nat) (p : ZS) (xs : List V), S[k]? = some p → SqS K H p xs → xs[i]? = us[k]?) → Reps K F' us (dss.map fun ds => ds.getD i .none) := by
      intro S dss us z
      induction z generalizing us with
      | nil => intro _ hl _; rw [List.eq_nil_of_length_eq_zero hl]; exact .nil
      | cons q r t ih =>
        rename_i p S ds dss vs
        intro h hl hu
        cases us with
        | nil => cases hl
        | cons u us =>
          refine .cons ?_ (ih (fun d md => h d (List.mem_cons_of_mem _ md)) (by simpa using hl) fun k p' xs hk hx => hu (k + 1) p' xs (by simpa using hk) hx)
          have hli : i < ds.length := by have := h ds List.mem_cons_self; omega
          obtain ⟨v, hv, rv⟩ := r.get (List.getElem?_eq_getElem hli)
          have := hu 0 p vs rfl (ex.wd.sub.sqS (g.sqS q))
          rw [hv] at this
          have : v = u := by simpa using this
          subst this
          show Rep K F' v (ds.getD i .none)
          rw [List.getD_eq_getElem?_getD, List.getElem?_eq_getElem hli]
          exact rv.gr g
    have x2 := Ext.laidF (o := .tup us) ex.wd hT
    exact ⟨_, x2, .tup upd_same ((key z h1 hul hus).gr x2.sub)⟩
theorem vi_zip {n : Nat} (Z : ZCall n) (h0 : 0 < n) (h1 : n ≤ 1000) (b : Bool) {tl : TDs} (ha : VL X (e :: es) tl) (hk : PK X kws (fun σ H Q => Q [.bl b] H)) (hn : (e :: es).length = n) (hg : Gl X "zip") (hm : X.mg "zip" = none)
    (hs : backTo pos (starEach (e :: es) X.env) = (false, eval e X.env) :: backTo pos (starEach es X.env) := by rfl) (hpl : (backTo pos (starEach (e :: es) X.env)).any (·.1) = false := by rfl)
    (hall : (backToKw pos (keywordEach kws X.env)).all (·.1.isSome) = true := by rfl) (hkw : (backToKw pos (keywordEach kws X.env)).any (·.1.isNone) = false := by rfl) (hks : (backToKw pos (keywordEach kws X.env)).filterMap (·.1) = [Str.ofString "strict"] := by rfl) :
    VI X (.Tuple elts kk tpos) (.Call (.Name "zip" p) (e :: es) kws pos) (fun ρ G => tl ρ fun ds => ds.length = n ∧ zipC b ds G) :=
  ⟨fun B => pi_imp (pi_zipK Z h0 h1 b (ha.pa B) hk hg hm hs hpl hall hkw hks) fun σ H R ⟨F, Ω, ρ, G, en, g, k⟩ => ⟨F, Ω, ρ, _, en, g, fun ds vs F' Ω' H' x r ⟨hl, dss, m, hd, g1, g2, g3, gG⟩ => by
    obtain ⟨S, rfl, z⟩ := zr_of r hd
    have hS : S.length = n := by rw [← hl, ← r.length, List.length_map]
    refine ⟨S, rfl, hS, fun q hq => ?_, k _ _ F' Ω' H' x (walks_zip z g1 g2 g3 (by omega)) gG⟩
    obtain ⟨j, hj⟩ := List.getElem?_of_mem hq
    obtain ⟨ds', vs', _, q', _⟩ := z.get hj
    exact ⟨vs', x.wd.sub.sqS q'⟩⟩⟩
/-- strict=.. -/
theorem pk_strict {bb : Bool} {j : Nat} {cp kp : Pos} : PK X [⟨some (Str.ofString "strict"), .Constant (.bool bb) j cp, kp⟩] (fun σ H Q => Q [.bl bb] H) := pk_cons (te := tC (.bl bb)) (t := tNil) pe_bl pk_nil
end
end TL
namespace TL
open PySem PySem.Spec PyProof.Rows L2
section
variable {X : Cx} {a b e : Expr} {es : List Expr} {pos : Pos} {K : Fg}
/-! ### math.gcd -/
abbrev cGcd := cI2 fun i j G => G (.sh (.int ((Nat.gcd i.natAbs j.natAbs : Nat) : Int)))
theorem vc_gcd {x : Str} {p : Pos} {ta tb : TC} (hm : X.mg x = some (.builtin "math.gcd")) (ha : SE X a ta) (hb : SE X b tb) (hg : Gl X x := by rfl)
    (hs : starEach [a, b] X.env = (false, eval a X.env) :: starEach [b] X.env := by rfl) (hs2 : starEach [b] X.env = (false, eval b X.env) :: starEach [] X.env := by rfl) (hdb : (x == ("__debug__" : Str)) = false := by decide) : VC X (.Call (.Name x p) [a, b] [] pos) (cBin cGcd ta tb) :=
  ⟨fun B => pe_imp (pe_callBfun cr_gcd hg hm (pa_cons (ha.pe B) (pa_cons (hb.pe B) pa_nil hs2) hs) hdb hs (by rw [hs2]; rfl)) fun σ H Q h => up_bin (r := fun v u H Q => rGcd [v, u] H Q) (fun F Ω H c1 c2 v1 v2 A1 A2 G Q w r1 r2 g k => by
    unfold cGcd cI2 at g
    split at g
    · obtain ⟨r1, _⟩ := r1
      obtain ⟨r2, _⟩ := r2
      cases r1
      cases r2
      exact ⟨_, _, rfl, k.sh (Ext.refl w) (.int _) g⟩
    · exact g.elim) h⟩
/-! ### a constant of the top: a tuple of ints -/
def KTup (K : Fg) (t : Addr) (ns : List Int) : Prop := ∃ (o : Obj) (its : Array Value) (n : Nat), K.lookup t = some o ∧ o.cls = .type "tuple" ∧ o.data = .seq its n ∧ its.size ≤ sizeLine ∧ Vals (ns.map V.int) its.toList
/-! ### is, is not of bools -/
def cIsBl (f : Bool → Bool) (x y : C) (G : CK) : Prop := match x, y with
  | .sh (.bool a), .sh (.bool b) => G (.sh (.bool (f (decide (a = b)))))
  | _, _ => False
theorem ok_isBl : OkBin K rIsB (cIsBl id) := fun F Ω H c1 c2 v1 v2 A1 A2 G Q w r1 r2 g k => by
  unfold cIsBl at g
  split at g
  · obtain ⟨r1, _⟩ := r1
    obtain ⟨r2, _⟩ := r2
    cases r1
    cases r2
    exact ⟨_, _, rfl, rfl, k.sh (Ext.refl w) (.bl _) g⟩
  · exact g.elim
theorem ok_notBl : OkBin K rNotB (cIsBl not) := fun F Ω H c1 c2 v1 v2 A1 A2 G Q w r1 r2 g k => by
  unfold cIsBl at g
  split at g
  · obtain ⟨r1, _⟩ := r1
    obtain ⟨r2, _⟩ := r2
    cases r1
    cases r2
    exact ⟨_, _, rfl, rfl, k.sh (Ext.refl w) (.bl _) g⟩
  · exact g.elim
/-! ### an int in a tuple of ints -/
def cInT (f : Bool → Bool) (x y : C) (G : CK) : Prop := ∃ (i : Int) (ns : List Int), x = .sh (.int i) ∧ y = .sh (.tuple (ns.map .int)) ∧ G (.sh (.bool (f (decide (i ∈ ns)))))
theorem inV_int (i : Int) : ∀ ns : List Int, inV (.int i) (ns.map V.int) = decide (i ∈ ns)
  | [] => rfl
  | n :: r => by
    have ih := inV_int i r
    unfold inV at ih ⊢
    rw [List.map_cons, List.any_cons, ih]
    have e : eqV (.int n) (.int i) = decide (n = i) := by by_cases h : n = i <;> simp [eqV, h]
    rw [e]
    by_cases h : n = i
    · subst h; simp
    · have h' : ¬ i = n := fun z => h z.symm
      by_cases h2 : i ∈ r <;> simp [h, h', h2]
theorem ok_inT : OkBin K (rIn K false) (cInT id) := fun F Ω H c1 c2 v1 v2 A1 A2 G Q w r1 r2 ⟨i, ns, h1, h2, g⟩ k => by
  subst h1 h2
  obtain ⟨r1, _⟩ := r1
  cases r1
  obtain ⟨t, vs, rfl, ft, et, q⟩ := tup_get w r2
  cases ints_of q
  refine ⟨t, _, rfl, .inr et, rfl, by simp [flatV], k.sh (Ext.refl w) (.bl _) ?_⟩
  show G (.sh (.bool (inV _ _)))
  rw [inV_int]
  exact g
theorem ok_notInT : OkBin K (rIn K true) (cInT not) := fun F Ω H c1 c2 v1 v2 A1 A2 G Q w r1 r2 ⟨i, ns, h1, h2, g⟩ k => by
  subst h1 h2
  obtain ⟨r1, _⟩ := r1
  cases r1
  obtain ⟨t, vs, rfl, ft, et, q⟩ := tup_get w r2
  cases ints_of q
  refine ⟨t, _, rfl, .inr et, rfl, by simp [flatV], k.sh (Ext.refl w) (.bl _) ?_⟩
  show G (.sh (.bool (!inV _ _)))
  rw [inV_int]
  exact g
/-! ### a, b = x, y -/
theorem vs_par {x y : Str} {n m : Nat} {px py pt : Pos} {kt k2 : Nat} {pt2 : Pos} {tl : TDs} (hN : X.N.Nodup) (hi : X.N[n]? = some x) (hj : X.N[m]? = some y) (ha : VL X [a, b] tl) (hij : n ≠ m := by decide) (hc : X.calm = true := by rfl)
    (hx : X.env.scope.names.lookup x = some .local := by rfl) (hy : X.env.scope.names.lookup y = some .local := by rfl) (hw : swappedStores [.Tuple [.Name x px, .Name y py] kt pt] (.Tuple [a, b] k2 pt2) X.env = pure (some [x, y]) := by rfl)
    (hs : swapsWithSole [.Tuple [.Name x px, .Name y py] kt pt] (.Tuple [a, b] k2 pt2) pos.line X.env = pure false := by rfl) :
    VS X (.Assign [.Tuple [.Name x px, .Name y py] kt pt] (.Tuple [a, b] k2 pt2) pos) (fun d ρ => tl ρ fun ds => ∃ u v, ds = [u, v] ∧ d.nx ((ρ.set n (.sh u)).set m (.sh v))) :=
  ⟨fun B => ps_imp (ps_par hc hN hi hj hij hx hy (ha.pa B) hw hs) fun De σ H ⟨F, Ω, ρ, d, en, g, k⟩ => ⟨F, Ω, ρ, _, en, g, fun ds vs F' Ω' H' x r ⟨u, v, hds, gd⟩ => by
    subst hds
    match vs, r with
    | [v1, v2], .cons r1 (.cons r2 .nil) =>
      refine ⟨v1, v2, rfl, k.nx _ F' Ω' H' _ x.sub ?_ gd⟩
      have e1 := en.set x (c := .sh u) ⟨r1, rfl⟩ ow_nil (fun _ m => nomatch m) n
      exact e1.set (Ext.refl e1.wd) (c := .sh v) ⟨r2, rfl⟩ ow_nil (fun _ m => nomatch m) m⟩⟩
end
end TL
namespace TL
open PySem PySem.Spec PyProof.Rows L2
/-! ### zip of four -/
set_option maxHeartbeats 4000000 in
theorem meets_zip4K {v1 v2 v3 v4 : Value} {o1 o2 o3 o4 : Obj} {H1 H2 H3 H4 : Heap → Prop} (B1 : Begins v1 o1 H1) (B2 : Begins v2 o2 H2) (B3 : Begins v3 o3 H3) (B4 : Begins v4 o4 H4) (b : Bool) :
    Meets (Builtin.«zip.__new__» ⟨[.type "zip", v1, v2, v3, v4], stK b⟩) (fun _ R s => (H1 s.heap ∧ H2 s.heap ∧ H3 s.heap ∧ H4 s.heap) ∧ R (.ok (.ret (.ref ((((((s.heap.push o1).push o2).push o3).push o4).push (tupO [.ref s.heap.objs.size, .ref (s.heap.push o1).objs.size, .ref ((s.heap.push o1).push o2).objs.size, .ref (((s.heap.push o1).push o2).push o3).objs.size])).push (tupO [.none, .none, .none, .none])).objs.size))) { s with heap := (((((((s.heap.push o1).push o2).push o3).push o4).push (tupO [.ref s.heap.objs.size, .ref (s.heap.push o1).objs.size, .ref ((s.heap.push o1).push o2).objs.size, .ref (((s.heap.push o1).push o2).push o3).objs.size])).push (tupO [.none, .none, .none, .none])).push (zipO b ((((s.heap.push o1).push o2).push o3).push o4).objs.size (((((s.heap.push o1).push o2).push o3).push o4).push (tupO [.ref s.heap.objs.size, .ref (s.heap.push o1).objs.size, .ref ((s.heap.push o1).push o2).objs.size, .ref (((s.heap.push o1).push o2).push o3).objs.size])).objs.size)) }) :=
  .of_wp fun prog w A R s h => by
    obtain ⟨hp, g, d, tk, os⟩ := s; obtain ⟨⟨h1, h2, h3, h4⟩, h⟩ := h
    have hsub := sub_zip
    have q1 : ∀ {A' : Around} {E : Value → Shared → Prop} {Q : Value → Shared → Prop}, Q (.ref hp.objs.size) ⟨(hp.push o1), g, d, tk, os⟩ → wpAny (model prog w) A' (pyIter v1) Q E ⟨hp, g, d, tk, os⟩ :=
      fun q => B1.iter prog w _ _ ⟨hp, g, d, tk, os⟩ _ (B1.keeps _ _ h1 fun c o e => e) q
    have q2 : ∀ {A' : Around} {E : Value → Shared → Prop} {Q : Value → Shared → Prop}, Q (.ref (hp.push o1).objs.size) ⟨((hp.push o1).push o2), g, d, tk, os⟩ → wpAny (model prog w) A' (pyIter v2) Q E ⟨(hp.push o1), g, d, tk, os⟩ :=
      fun q => B2.iter prog w _ _ ⟨(hp.push o1), g, d, tk, os⟩ _ (B2.keeps _ _ h2 fun c o e => (Heap.get?_push_of_some _ e)) q
    have q3 : ∀ {A' : Around} {E : Value → Shared → Prop} {Q : Value → Shared → Prop}, Q (.ref ((hp.push o1).push o2).objs.size) ⟨(((hp.push o1).push o2).push o3), g, d, tk, os⟩ → wpAny (model prog w) A' (pyIter v3) Q E ⟨((hp.push o1).push o2), g, d, tk, os⟩ :=
      fun q => B3.iter prog w _ _ ⟨((hp.push o1).push o2), g, d, tk, os⟩ _ (B3.keeps _ _ h3 fun c o e => (Heap.get?_push_of_some _ (Heap.get?_push_of_some _ e))) q
    have q4 : ∀ {A' : Around} {E : Value → Shared → Prop} {Q : Value → Shared → Prop}, Q (.ref (((hp.push o1).push o2).push o3).objs.size) ⟨((((hp.push o1).push o2).push o3).push o4), g, d, tk, os⟩ → wpAny (model prog w) A' (pyIter v4) Q E ⟨(((hp.push o1).push o2).push o3), g, d, tk, os⟩ :=
      fun q => B4.iter prog w _ _ ⟨(((hp.push o1).push o2).push o3), g, d, tk, os⟩ _ (B4.keeps _ _ h4 fun c o e => (Heap.get?_push_of_some _ (Heap.get?_push_of_some _ (Heap.get?_push_of_some _ e)))) q
    have e1 : (Str.ofString "strict" == ("strict" : Str)) = true := by decide +kernel
    have e2 : (Str.ofString "strict" != ("strict" : Str)) = false := by decide +kernel
    wp_walk using q1, q2, q3, q4
    exact ⟨_, rfl, h⟩
theorem call_zip4K {prog : Program} {w : World} {A : Around} {E : Value → Shared → Prop} {s : Shared} {S : List ZS} (hS : S.length = 4) (b : Bool) {Q : Value → Shared → Prop} (hs : ∀ p ∈ S, ∃ xs, SqAt s.heap p.1 p.2 xs)
    (h : ∀ h', ZRec h' (s.heap.objs.size + 6) (s.heap.objs.size + 4) (s.heap.objs.size + 5) .none b → TupAt h' (s.heap.objs.size + 4) ((zes s.heap.objs.size S).map fun e => .ref e.it) → (∃ xs, TupAt h' (s.heap.objs.size + 5) xs ∧ xs.length = S.length) → (∀ e ∈ zes s.heap.objs.size S, ItAt h' e.tp e.it e.src 0) → h'.objs.size = s.heap.objs.size + 7 → (∀ c o, s.heap.get? c = some o → h'.get? c = some o) → Q (.ref (s.heap.objs.size + 6)) { s with heap := h' }) :
    wpAny (model prog w) A (call (.type "zip") (S.map fun p => .ref p.2) (stK b)) Q E s := by
  obtain ⟨p1, p2, p3, p4, rfl⟩ : ∃ p1 p2 p3 p4, S = [p1, p2, p3, p4] := by
    match S, hS with
    | [p1, p2, p3, p4], _ => exact ⟨_, _, _, _, rfl⟩
  obtain ⟨xs1, g1⟩ := hs p1 (by simp)
  obtain ⟨xs2, g2⟩ := hs p2 (by simp)
  obtain ⟨xs3, g3⟩ := hs p3 (by simp)
  obtain ⟨xs4, g4⟩ := hs p4 (by simp)
  show wpAny _ _ (call (.type "zip") [.ref p1.2, .ref p2.2, .ref p3.2, .ref p4.2] (stK b)) _ _ _
  refine callType_newKw F.called_zip (by decide) (typeCall_zip4K _ _ _ _ _) (newCall_zip4K _ _ _ _ _) (fun obj => init_zip4K obj _ _ _ _ _) F.entry_zip_new (meets_zip4K (begins_z p1.1 p1.2 xs1) (begins_z p2.1 p2.2 xs2) (begins_z p3.1 p3.2 xs3) (begins_z p4.1 p4.2 xs4) b) ⟨⟨g1, g2, g3, g4⟩, ?_⟩
  have z1 : (s.heap.push (zIt p1.1 p1.2)).objs.size = s.heap.objs.size + 1 := by rw [Heap.size_push]
  have z2 : ((s.heap.push (zIt p1.1 p1.2)).push (zIt p2.1 p2.2)).objs.size = s.heap.objs.size + 2 := by rw [Heap.size_push, z1]
  have z3 : (((s.heap.push (zIt p1.1 p1.2)).push (zIt p2.1 p2.2)).push (zIt p3.1 p3.2)).objs.size = s.heap.objs.size + 3 := by rw [Heap.size_push, z2]
  have z4 : ((((s.heap.push (zIt p1.1 p1.2)).push (zIt p2.1 p2.2)).push (zIt p3.1 p3.2)).push (zIt p4.1 p4.2)).objs.size = s.heap.objs.size + 4 := by rw [Heap.size_push, z3]
  have zT : (((((s.heap.push (zIt p1.1 p1.2)).push (zIt p2.1 p2.2)).push (zIt p3.1 p3.2)).push (zIt p4.1 p4.2)).push (tupO [.ref s.heap.objs.size, .ref (s.heap.push (zIt p1.1 p1.2)).objs.size, .ref ((s.heap.push (zIt p1.1 p1.2)).push (zIt p2.1 p2.2)).objs.size, .ref (((s.heap.push (zIt p1.1 p1.2)).push (zIt p2.1 p2.2)).push (zIt p3.1 p3.2)).objs.size])).objs.size = s.heap.objs.size + 5 := by rw [Heap.size_push, z4]
  have zO : ((((((s.heap.push (zIt p1.1 p1.2)).push (zIt p2.1 p2.2)).push (zIt p3.1 p3.2)).push (zIt p4.1 p4.2)).push (tupO [.ref s.heap.objs.size, .ref (s.heap.push (zIt p1.1 p1.2)).objs.size, .ref ((s.heap.push (zIt p1.1 p1.2)).push (zIt p2.1 p2.2)).objs.size, .ref (((s.heap.push (zIt p1.1 p1.2)).push (zIt p2.1 p2.2)).push (zIt p3.1 p3.2)).objs.size])).push (tupO [.none, .none, .none, .none])).objs.size = s.heap.objs.size + 6 := by rw [Heap.size_push, zT]
  have zZ : (((((((s.heap.push (zIt p1.1 p1.2)).push (zIt p2.1 p2.2)).push (zIt p3.1 p3.2)).push (zIt p4.1 p4.2)).push (tupO [.ref s.heap.objs.size, .ref (s.heap.push (zIt p1.1 p1.2)).objs.size, .ref ((s.heap.push (zIt p1.1 p1.2)).push (zIt p2.1 p2.2)).objs.size, .ref (((s.heap.push (zIt p1.1 p1.2)).push (zIt p2.1 p2.2)).push (zIt p3.1 p3.2)).objs.size])).push (tupO [.none, .none, .none, .none])).push (zipO b ((((s.heap.push (zIt p1.1 p1.2)).push (zIt p2.1 p2.2)).push (zIt p3.1 p3.2)).push (zIt p4.1 p4.2)).objs.size (((((s.heap.push (zIt p1.1 p1.2)).push (zIt p2.1 p2.2)).push (zIt p3.1 p3.2)).push (zIt p4.1 p4.2)).push (tupO [.ref s.heap.objs.size, .ref (s.heap.push (zIt p1.1 p1.2)).objs.size, .ref ((s.heap.push (zIt p1.1 p1.2)).push (zIt p2.1 p2.2)).objs.size, .ref (((s.heap.push (zIt p1.1 p1.2)).push (zIt p2.1 p2.2)).push (zIt p3.1 p3.2)).objs.size])).objs.size)).objs.size = s.heap.objs.size + 7 := by rw [Heap.size_push, zO]
  have gZ : Heap.get? (((((((s.heap.push (zIt p1.1 p1.2)).push (zIt p2.1 p2.2)).push (zIt p3.1 p3.2)).push (zIt p4.1 p4.2)).push (tupO [.ref s.heap.objs.size, .ref (s.heap.push (zIt p1.1 p1.2)).objs.size, .ref ((s.heap.push (zIt p1.1 p1.2)).push (zIt p2.1 p2.2)).objs.size, .ref (((s.heap.push (zIt p1.1 p1.2)).push (zIt p2.1 p2.2)).push (zIt p3.1 p3.2)).objs.size])).push (tupO [.none, .none, .none, .none])).push (zipO b ((((s.heap.push (zIt p1.1 p1.2)).push (zIt p2.1 p2.2)).push (zIt p3.1 p3.2)).push (zIt p4.1 p4.2)).objs.size (((((s.heap.push (zIt p1.1 p1.2)).push (zIt p2.1 p2.2)).push (zIt p3.1 p3.2)).push (zIt p4.1 p4.2)).push (tupO [.ref s.heap.objs.size, .ref (s.heap.push (zIt p1.1 p1.2)).objs.size, .ref ((s.heap.push (zIt p1.1 p1.2)).push (zIt p2.1 p2.2)).objs.size, .ref (((s.heap.push (zIt p1.1 p1.2)).push (zIt p2.1 p2.2)).push (zIt p3.1 p3.2)).objs.size])).objs.size)) ((((((s.heap.push (zIt p1.1 p1.2)).push (zIt p2.1 p2.2)).push (zIt p3.1 p3.2)).push (zIt p4.1 p4.2)).push (tupO [.ref s.heap.objs.size, .ref (s.heap.push (zIt p1.1 p1.2)).objs.size, .ref ((s.heap.push (zIt p1.1 p1.2)).push (zIt p2.1 p2.2)).objs.size, .ref (((s.heap.push (zIt p1.1 p1.2)).push (zIt p2.1 p2.2)).push (zIt p3.1 p3.2)).objs.size])).push (tupO [.none, .none, .none, .none])).objs.size = some (zipO b ((((s.heap.push (zIt p1.1 p1.2)).push (zIt p2.1 p2.2)).push (zIt p3.1 p3.2)).push (zIt p4.1 p4.2)).objs.size (((((s.heap.push (zIt p1.1 p1.2)).push (zIt p2.1 p2.2)).push (zIt p3.1 p3.2)).push (zIt p4.1 p4.2)).push (tupO [.ref s.heap.objs.size, .ref (s.heap.push (zIt p1.1 p1.2)).objs.size, .ref ((s.heap.push (zIt p1.1 p1.2)).push (zIt p2.1 p2.2)).objs.size, .ref (((s.heap.push (zIt p1.1 p1.2)).push (zIt p2.1 p2.2)).push (zIt p3.1 p3.2)).objs.size])).objs.size) := Heap.get?_push_size _ rfl
  have gO : Heap.get? (((((((s.heap.push (zIt p1.1 p1.2)).push (zIt p2.1 p2.2)).push (zIt p3.1 p3.2)).push (zIt p4.1 p4.2)).push (tupO [.ref s.heap.objs.size, .ref (s.heap.push (zIt p1.1 p1.2)).objs.size, .ref ((s.heap.push (zIt p1.1 p1.2)).push (zIt p2.1 p2.2)).objs.size, .ref (((s.heap.push (zIt p1.1 p1.2)).push (zIt p2.1 p2.2)).push (zIt p3.1 p3.2)).objs.size])).push (tupO [.none, .none, .none, .none])).push (zipO b ((((s.heap.push (zIt p1.1 p1.2)).push (zIt p2.1 p2.2)).push (zIt p3.1 p3.2)).push (zIt p4.1 p4.2)).objs.size (((((s.heap.push (zIt p1.1 p1.2)).push (zIt p2.1 p2.2)).push (zIt p3.1 p3.2)).push (zIt p4.1 p4.2)).push (tupO [.ref s.heap.objs.size, .ref (s.heap.push (zIt p1.1 p1.2)).objs.size, .ref ((s.heap.push (zIt p1.1 p1.2)).push (zIt p2.1 p2.2)).objs.size, .ref (((s.heap.push (zIt p1.1 p1.2)).push (zIt p2.1 p2.2)).push (zIt p3.1 p3.2)).objs.size])).objs.size)) (((((s.heap.push (zIt p1.1 p1.2)).push (zIt p2.1 p2.2)).push (zIt p3.1 p3.2)).push (zIt p4.1 p4.2)).push (tupO [.ref s.heap.objs.size, .ref (s.heap.push (zIt p1.1 p1.2)).objs.size, .ref ((s.heap.push (zIt p1.1 p1.2)).push (zIt p2.1 p2.2)).objs.size, .ref (((s.heap.push (zIt p1.1 p1.2)).push (zIt p2.1 p2.2)).push (zIt p3.1 p3.2)).objs.size])).objs.size = some (tupO [.none, .none, .none, .none]) := Heap.get?_push_of_some _ (Heap.get?_push_size _ rfl)
  have gT : Heap.get? (((((((s.heap.push (zIt p1.1 p1.2)).push (zIt p2.1 p2.2)).push (zIt p3.1 p3.2)).push (zIt p4.1 p4.2)).push (tupO [.ref s.heap.objs.size, .ref (s.heap.push (zIt p1.1 p1.2)).objs.size, .ref ((s.heap.push (zIt p1.1 p1.2)).push (zIt p2.1 p2.2)).objs.size, .ref (((s.heap.push (zIt p1.1 p1.2)).push (zIt p2.1 p2.2)).push (zIt p3.1 p3.2)).objs.size])).push (tupO [.none, .none, .none, .none])).push (zipO b ((((s.heap.push (zIt p1.1 p1.2)).push (zIt p2.1 p2.2)).push (zIt p3.1 p3.2)).push (zIt p4.1 p4.2)).objs.size (((((s.heap.push (zIt p1.1 p1.2)).push (zIt p2.1 p2.2)).push (zIt p3.1 p3.2)).push (zIt p4.1 p4.2)).push (tupO [.ref s.heap.objs.size, .ref (s.heap.push (zIt p1.1 p1.2)).objs.size, .ref ((s.heap.push (zIt p1.1 p1.2)).push (zIt p2.1 p2.2)).objs.size, .ref (((s.heap.push (zIt p1.1 p1.2)).push (zIt p2.1 p2.2)).push (zIt p3.1 p3.2)).objs.size])).objs.size)) ((((s.heap.push (zIt p1.1 p1.2)).push (zIt p2.1 p2.2)).push (zIt p3.1 p3.2)).push (zIt p4.1 p4.2)).objs.size = some (tupO [.ref s.heap.objs.size, .ref (s.heap.push (zIt p1.1 p1.2)).objs.size, .ref ((s.heap.push (zIt p1.1 p1.2)).push (zIt p2.1 p2.2)).objs.size, .ref (((s.heap.push (zIt p1.1 p1.2)).push (zIt p2.1 p2.2)).push (zIt p3.1 p3.2)).objs.size]) := Heap.get?_push_of_some _ (Heap.get?_push_of_some _ (Heap.get?_push_size _ rfl))
  have k1 : Heap.get? (((((((s.heap.push (zIt p1.1 p1.2)).push (zIt p2.1 p2.2)).push (zIt p3.1 p3.2)).push (zIt p4.1 p4.2)).push (tupO [.ref s.heap.objs.size, .ref (s.heap.push (zIt p1.1 p1.2)).objs.size, .ref ((s.heap.push (zIt p1.1 p1.2)).push (zIt p2.1 p2.2)).objs.size, .ref (((s.heap.push (zIt p1.1 p1.2)).push (zIt p2.1 p2.2)).push (zIt p3.1 p3.2)).objs.size])).push (tupO [.none, .none, .none, .none])).push (zipO b ((((s.heap.push (zIt p1.1 p1.2)).push (zIt p2.1 p2.2)).push (zIt p3.1 p3.2)).push (zIt p4.1 p4.2)).objs.size (((((s.heap.push (zIt p1.1 p1.2)).push (zIt p2.1 p2.2)).push (zIt p3.1 p3.2)).push (zIt p4.1 p4.2)).push (tupO [.ref s.heap.objs.size, .ref (s.heap.push (zIt p1.1 p1.2)).objs.size, .ref ((s.heap.push (zIt p1.1 p1.2)).push (zIt p2.1 p2.2)).objs.size, .ref (((s.heap.push (zIt p1.1 p1.2)).push (zIt p2.1 p2.2)).push (zIt p3.1 p3.2)).objs.size])).objs.size)) s.heap.objs.size = some (zIt p1.1 p1.2) := (Heap.get?_push_of_some _ (Heap.get?_push_of_some _ (Heap.get?_push_of_some _ (Heap.get?_push_of_some _ (Heap.get?_push_of_some _ (Heap.get?_push_of_some _ (Heap.get?_push_size _ (zIt_free _ _))))))))
  have k2 : Heap.get? (((((((s.heap.push (zIt p1.1 p1.2)).push (zIt p2.1 p2.2)).push (zIt p3.1 p3.2)).push (zIt p4.1 p4.2)).push (tupO [.ref s.heap.objs.size, .ref (s.heap.push (zIt p1.1 p1.2)).objs.size, .ref ((s.heap.push (zIt p1.1 p1.2)).push (zIt p2.1 p2.2)).objs.size, .ref (((s.heap.push (zIt p1.1 p1.2)).push (zIt p2.1 p2.2)).push (zIt p3.1 p3.2)).objs.size])).push (tupO [.none, .none, .none, .none])).push (zipO b ((((s.heap.push (zIt p1.1 p1.2)).push (zIt p2.1 p2.2)).push (zIt p3.1 p3.2)).push (zIt p4.1 p4.2)).objs.size (((((s.heap.push (zIt p1.1 p1.2)).push (zIt p2.1 p2.2)).push (zIt p3.1 p3.2)).push (zIt p4.1 p4.2)).push (tupO [.ref s.heap.objs.size, .ref (s.heap.push (zIt p1.1 p1.2)).objs.size, .ref ((s.heap.push (zIt p1.1 p1.2)).push (zIt p2.1 p2.2)).objs.size, .ref (((s.heap.push (zIt p1.1 p1.2)).push (zIt p2.1 p2.2)).push (zIt p3.1 p3.2)).objs.size])).objs.size)) (s.heap.push (zIt p1.1 p1.2)).objs.size = some (zIt p2.1 p2.2) := (Heap.get?_push_of_some _ (Heap.get?_push_of_some _ (Heap.get?_push_of_some _ (Heap.get?_push_of_some _ (Heap.get?_push_of_some _ (Heap.get?_push_size _ (zIt_free _ _)))))))
  have k3 : Heap.get? (((((((s.heap.push (zIt p1.1 p1.2)).push (zIt p2.1 p2.2)).push (zIt p3.1 p3.2)).push (zIt p4.1 p4.2)).push (tupO [.ref s.heap.objs.size, .ref (s.heap.push (zIt p1.1 p1.2)).objs.size, .ref ((s.heap.push (zIt p1.1 p1.2)).push (zIt p2.1 p2.2)).objs.size, .ref (((s.heap.push (zIt p1.1 p1.2)).push (zIt p2.1 p2.2)).push (zIt p3.1 p3.2)).objs.size])).push (tupO [.none, .none, .none, .none])).push (zipO b ((((s.heap.push (zIt p1.1 p1.2)).push (zIt p2.1 p2.2)).push (zIt p3.1 p3.2)).push (zIt p4.1 p4.2)).objs.size (((((s.heap.push (zIt p1.1 p1.2)).push (zIt p2.1 p2.2)).push (zIt p3.1 p3.2)).push (zIt p4.1 p4.2)).push (tupO [.ref s.heap.objs.size, .ref (s.heap.push (zIt p1.1 p1.2)).objs.size, .ref ((s.heap.push (zIt p1.1 p1.2)).push (zIt p2.1 p2.2)).objs.size, .ref (((s.heap.push (zIt p1.1 p1.2)).push (zIt p2.1 p2.2)).push (zIt p3.1 p3.2)).objs.size])).objs.size)) ((s.heap.push (zIt p1.1 p1.2)).push (zIt p2.1 p2.2)).objs.size = some (zIt p3.1 p3.2) := (Heap.get?_push_of_some _ (Heap.get?_push_of_some _ (Heap.get?_push_of_some _ (Heap.get?_push_of_some _ (Heap.get?_push_size _ (zIt_free _ _))))))
  have k4 : Heap.get? (((((((s.heap.push (zIt p1.1 p1.2)).push (zIt p2.1 p2.2)).push (zIt p3.1 p3.2)).push (zIt p4.1 p4.2)).push (tupO [.ref s.heap.objs.size, .ref (s.heap.push (zIt p1.1 p1.2)).objs.size, .ref ((s.heap.push (zIt p1.1 p1.2)).push (zIt p2.1 p2.2)).objs.size, .ref (((s.heap.push (zIt p1.1 p1.2)).push (zIt p2.1 p2.2)).push (zIt p3.1 p3.2)).objs.size])).push (tupO [.none, .none, .none, .none])).push (zipO b ((((s.heap.push (zIt p1.1 p1.2)).push (zIt p2.1 p2.2)).push (zIt p3.1 p3.2)).push (zIt p4.1 p4.2)).objs.size (((((s.heap.push (zIt p1.1 p1.2)).push (zIt p2.1 p2.2)).push (zIt p3.1 p3.2)).push (zIt p4.1 p4.2)).push (tupO [.ref s.heap.objs.size, .ref (s.heap.push (zIt p1.1 p1.2)).objs.size, .ref ((s.heap.push (zIt p1.1 p1.2)).push (zIt p2.1 p2.2)).objs.size, .ref (((s.heap.push (zIt p1.1 p1.2)).push (zIt p2.1 p2.2)).push (zIt p3.1 p3.2)).objs.size])).objs.size)) (((s.heap.push (zIt p1.1 p1.2)).push (zIt p2.1 p2.2)).push (zIt p3.1 p3.2)).objs.size = some (zIt p4.1 p4.2) := (Heap.get?_push_of_some _ (Heap.get?_push_of_some _ (Heap.get?_push_of_some _ (Heap.get?_push_size _ (zIt_free _ _)))))
  have kk : ∀ c o, s.heap.get? c = some o → Heap.get? (((((((s.heap.push (zIt p1.1 p1.2)).push (zIt p2.1 p2.2)).push (zIt p3.1 p3.2)).push (zIt p4.1 p4.2)).push (tupO [.ref s.heap.objs.size, .ref (s.heap.push (zIt p1.1 p1.2)).objs.size, .ref ((s.heap.push (zIt p1.1 p1.2)).push (zIt p2.1 p2.2)).objs.size, .ref (((s.heap.push (zIt p1.1 p1.2)).push (zIt p2.1 p2.2)).push (zIt p3.1 p3.2)).objs.size])).push (tupO [.none, .none, .none, .none])).push (zipO b ((((s.heap.push (zIt p1.1 p1.2)).push (zIt p2.1 p2.2)).push (zIt p3.1 p3.2)).push (zIt p4.1 p4.2)).objs.size (((((s.heap.push (zIt p1.1 p1.2)).push (zIt p2.1 p2.2)).push (zIt p3.1 p3.2)).push (zIt p4.1 p4.2)).push (tupO [.ref s.heap.objs.size, .ref (s.heap.push (zIt p1.1 p1.2)).objs.size, .ref ((s.heap.push (zIt p1.1 p1.2)).push (zIt p2.1 p2.2)).objs.size, .ref (((s.heap.push (zIt p1.1 p1.2)).push (zIt p2.1 p2.2)).push (zIt p3.1 p3.2)).objs.size])).objs.size)) c = some o := fun c o e => (Heap.get?_push_of_some _ (Heap.get?_push_of_some _ (Heap.get?_push_of_some _ (Heap.get?_push_of_some _ (Heap.get?_push_of_some _ (Heap.get?_push_of_some _ (Heap.get?_push_of_some _ e)))))))
  obtain ⟨hZ, hhZ⟩ : ∃ hZ, hZ = (((((((s.heap.push (zIt p1.1 p1.2)).push (zIt p2.1 p2.2)).push (zIt p3.1 p3.2)).push (zIt p4.1 p4.2)).push (tupO [.ref s.heap.objs.size, .ref (s.heap.push (zIt p1.1 p1.2)).objs.size, .ref ((s.heap.push (zIt p1.1 p1.2)).push (zIt p2.1 p2.2)).objs.size, .ref (((s.heap.push (zIt p1.1 p1.2)).push (zIt p2.1 p2.2)).push (zIt p3.1 p3.2)).objs.size])).push (tupO [.none, .none, .none, .none])).push (zipO b ((((s.heap.push (zIt p1.1 p1.2)).push (zIt p2.1 p2.2)).push (zIt p3.1 p3.2)).push (zIt p4.1 p4.2)).objs.size (((((s.heap.push (zIt p1.1 p1.2)).push (zIt p2.1 p2.2)).push (zIt p3.1 p3.2)).push (zIt p4.1 p4.2)).push (tupO [.ref s.heap.objs.size, .ref (s.heap.push (zIt p1.1 p1.2)).objs.size, .ref ((s.heap.push (zIt p1.1 p1.2)).push (zIt p2.1 p2.2)).objs.size, .ref (((s.heap.push (zIt p1.1 p1.2)).push (zIt p2.1 p2.2)).push (zIt p3.1 p3.2)).objs.size])).objs.size)) := ⟨_, rfl⟩
  rw [← hhZ] at zZ gZ gO gT kk k1 k2 k3 k4
  rw [zO, zT, z4] at gZ
  rw [zT] at gO
  rw [z4, z3, z2, z1] at gT
  rw [z1] at k2
  rw [z2] at k3
  rw [z3] at k4
  show _ ∧ _
  rw [← hhZ, zO]
  refine ⟨⟨_, gZ, rfl⟩, h _ gZ gT ⟨_, gO, rfl⟩ (fun e hm => ?_) zZ kk⟩
  have hm : e ∈ [(⟨s.heap.objs.size + 0, p1.1, p1.2⟩ : ZE), (⟨s.heap.objs.size + 1, p2.1, p2.2⟩ : ZE), (⟨s.heap.objs.size + 2, p3.1, p3.2⟩ : ZE), (⟨s.heap.objs.size + 3, p4.1, p4.2⟩ : ZE)] := hm
  rcases List.mem_cons.mp hm with rfl | hm
  · exact zIt_at k1
  rcases List.mem_cons.mp hm with rfl | hm
  · exact zIt_at k2
  rcases List.mem_cons.mp hm with rfl | hm
  · exact zIt_at k3
  rcases List.mem_cons.mp hm with rfl | hm
  · exact zIt_at k4
  exact nomatch hm

theorem zcall4 : ZCall 4 := fun hS b Q hs h => call_zip4K hS b hs h
end TL
namespace TL
open PySem PySem.Spec PyProof.Rows L2
section
variable {X : Cx} {a b : Expr} {pos : Pos} {K : Fg}
/-! ### floor division, by what is wide or below 0 -/
abbrev rDivA : R2 := fun x y H Q => rI CDivW (fun i j => .int (i / j)) x y H Q ∨ rI CDivN (fun i j => .int (i.fdiv j)) x y H Q
abbrev cDivA := cI2 fun i j G => (CDivW i j ∨ CDivN i j) ∧ G (.sh (.int (i.fdiv j)))
theorem ok_divA : OkBin K rDivA cDivA := fun F Ω H c1 c2 v1 v2 A1 A2 G Q w r1 r2 g k => by
  unfold cDivA cI2 at g
  split at g
  · obtain ⟨r1, _⟩ := r1
    obtain ⟨r2, _⟩ := r2
    cases r1
    cases r2
    rcases g.1 with h | h
    · exact .inl ⟨_, _, rfl, rfl, h, k.sh (Ext.refl w) (.int _) (by rw [← Int.fdiv_eq_ediv_of_nonneg _ (Int.le_of_lt h.1)]; exact g.2)⟩
    · exact .inr ⟨_, _, rfl, rfl, h, k.sh (Ext.refl w) (.int _) g.2⟩
  · exact g.elim
theorem vc_divA {ta tb : TC} (ha : SE X a ta) (hb : SE X b tb) : VC X (.BinOp a .FloorDiv b pos) (cBin cDivA ta tb) := vc_op (OpR.or op_fdivW op_fdivN) ok_divA ha hb
end
/-! ### fractions in lowest terms -/
abbrev eR (r : Rat) : D := .tuple [.int r.num, .int (r.den : Int)]
/-- n binary digits do for its numbers -/
def Bd (n : Nat) (r : Rat) : Prop := r.num.natAbs < 2 ^ n ∧ r.den < 2 ^ n
theorem Bd.mono {m n : Nat} {r : Rat} (h : Bd m r) (hm : m ≤ n) : Bd n r := ⟨Nat.lt_of_lt_of_le h.1 (Nat.pow_le_pow_right (by decide) hm), Nat.lt_of_lt_of_le h.2 (Nat.pow_le_pow_right (by decide) hm)⟩
/-- the divisor that makes lowest terms with a denominator above 0 -/
def facF (p q : Int) : Int := if q > 0 then ((Nat.gcd p.natAbs q.natAbs : Nat) : Int) else -((Nat.gcd p.natAbs q.natAbs : Nat) : Int)
theorem gcd_e (p q : Int) : (Int.gcd q p : Nat) = Nat.gcd p.natAbs q.natAbs := by unfold Int.gcd; exact Nat.gcd_comm _ _
theorem frac_pos {p q : Int} (hq : 0 < q) : (Rat.divInt p q).num = p / ((Nat.gcd p.natAbs q.natAbs : Nat) : Int) ∧ (((Rat.divInt p q).den : Nat) : Int) = q / ((Nat.gcd p.natAbs q.natAbs : Nat) : Int) := by
  constructor
  · rw [Rat.num_divInt, Int.sign_eq_one_of_pos hq, Int.one_mul, gcd_e]
  · rw [Rat.den_divInt, if_neg (by omega), gcd_e]
    rw [Int.natCast_ediv]
    congr 1
    omega
theorem gcd_pos {p q : Int} (hq : q ≠ 0) : 0 < Nat.gcd p.natAbs q.natAbs := Nat.gcd_pos_of_pos_right _ (by omega)
theorem frac_eq {p q : Int} (hq : q ≠ 0) : p.fdiv (facF p q) = (Rat.divInt p q).num ∧ q.fdiv (facF p q) = ((Rat.divInt p q).den : Int) := by
  unfold facF
  by_cases h : q > 0
  · rw [if_pos h, Int.fdiv_eq_ediv_of_nonneg _ (by omega), Int.fdiv_eq_ediv_of_nonneg _ (by omega)]
    exact ⟨(frac_pos h).1.symm, (frac_pos h).2.symm⟩
  · have h' : 0 < -q := by omega
    have e := frac_pos (p := -p) h'
    rw [Rat.neg_divInt_neg, Int.natAbs_neg, Int.natAbs_neg] at e
    have f : ∀ x g : Int, x.fdiv (-g) = (-x).fdiv g := fun x g => by
      have := Int.neg_fdiv_neg (-x) g
      rw [Int.neg_neg] at this
      exact this
    rw [if_neg h, f, f, Int.fdiv_eq_ediv_of_nonneg _ (by omega), Int.fdiv_eq_ediv_of_nonneg _ (by omega)]
    exact ⟨e.1.symm, e.2.symm⟩
theorem facF_ok {p q : Int} (hq : 0 < q ∨ (q < 0 ∧ -1073741824 < q)) (hb : q.natAbs < 2 ^ 2000) (x : Int) : CDivW x (facF p q) ∨ CDivN x (facF p q) := by
  have hg : 0 < Nat.gcd p.natAbs q.natAbs := gcd_pos (by omega)
  have hle : Nat.gcd p.natAbs q.natAbs ≤ q.natAbs := Nat.gcd_le_right _ (by omega)
  unfold facF
  rcases hq with h | ⟨h, h2⟩
  · rw [if_pos h]
    exact .inl (wide_div (b := 2000) (by omega) (by omega) (by decide) (by decide))
  · rw [if_neg (by omega)]
    refine .inr ?_
    unfold CDivN
    omega
theorem bd_divInt {p q : Int} {n : Nat} (hq : q ≠ 0) (hp : p.natAbs < 2 ^ n) (hn : q.natAbs < 2 ^ n) : Bd n (Rat.divInt p q) := by
  refine ⟨?_, ?_⟩
  · rw [Rat.num_divInt, gcd_e]
    refine Nat.lt_of_le_of_lt ?_ hp
    refine Nat.le_trans (Int.natAbs_ediv_le_natAbs _ _) ?_
    rw [Int.natAbs_mul, Int.natAbs_sign_of_ne_zero hq, Nat.one_mul]
    exact Nat.le_refl _
  · rw [Rat.den_divInt, if_neg hq]
    exact Nat.lt_of_le_of_lt (Nat.div_le_self _ _) hn
theorem bd_int {n : Nat} {i : Int} (h : i.natAbs < 2 ^ n) (h0 : 0 < n) : Bd n (i : Rat) := ⟨by rw [Rat.num_intCast]; exact h, by rw [Rat.den_intCast]; exact Nat.one_lt_two_pow (by omega)⟩
theorem den_pos (r : Rat) : (0 : Int) < (r.den : Int) := by have := r.den_nz; omega
theorem mul_lt_pow {a b m n : Nat} (ha : a < 2 ^ m) (hb : b < 2 ^ n) : a * b < 2 ^ (m + n) := by
  rw [Nat.pow_add]
  exact Nat.mul_lt_mul'' ha hb
theorem add_num_lt {a b : Rat} {m n : Nat} (ha : Bd m a) (hb : Bd n b) : (a.num * (b.den : Int) + b.num * (a.den : Int)).natAbs < 2 ^ (m + n + 1) := by
  have h1 : (a.num * (b.den : Int)).natAbs < 2 ^ (m + n) := by rw [Int.natAbs_mul]; exact mul_lt_pow ha.1 hb.2
  have h2 : (b.num * (a.den : Int)).natAbs < 2 ^ (m + n) := by rw [Int.natAbs_mul, Nat.add_comm m n]; exact mul_lt_pow hb.1 ha.2
  have h3 := Int.natAbs_add_le (a.num * (b.den : Int)) (b.num * (a.den : Int))
  rw [Nat.pow_succ]
  omega
theorem add_eq (a b : Rat) : Rat.divInt (a.num * (b.den : Int) + b.num * (a.den : Int)) ((a.den : Int) * (b.den : Int)) = a + b := by
  rw [Rat.add_def', ← Rat.divInt_ofNat]
  congr 1
theorem mul_eq (a b : Rat) : Rat.divInt (a.num * b.num) ((a.den : Int) * (b.den : Int)) = a * b := by
  rw [Rat.mul_def', ← Rat.divInt_ofNat]
  congr 1
theorem Bd.add {a b : Rat} {m n : Nat} (ha : Bd m a) (hb : Bd n b) : Bd (m + n + 1) (a + b) := by
  rw [← add_eq]
  refine bd_divInt (Int.ne_of_gt (Int.mul_pos (den_pos a) (den_pos b))) (add_num_lt ha hb) ?_
  rw [Int.natAbs_mul]
  exact Nat.lt_trans (mul_lt_pow ha.2 hb.2) (Nat.pow_lt_pow_right (by decide) (by omega))
theorem Bd.mul {a b : Rat} {m n : Nat} (ha : Bd m a) (hb : Bd n b) : Bd (m + n) (a * b) := by
  rw [← mul_eq]
  refine bd_divInt (Int.ne_of_gt (Int.mul_pos (den_pos a) (den_pos b))) ?_ ?_
  · rw [Int.natAbs_mul]; exact mul_lt_pow ha.1 hb.1
  · rw [Int.natAbs_mul]; exact mul_lt_pow ha.2 hb.2
theorem Bd.neg {a : Rat} {m : Nat} (ha : Bd m a) : Bd m (-a) := ⟨by rw [Rat.neg_num, Int.natAbs_neg]; exact ha.1, by rw [Rat.neg_den]; exact ha.2⟩
theorem lt_eq (a b : Rat) : decide (a.num * (b.den : Int) < b.num * (a.den : Int)) = decide (a < b) := by
  by_cases h : a < b
  · rw [decide_eq_true h, decide_eq_true ((Rat.lt_iff a b).mp h)]
  · rw [decide_eq_false h, decide_eq_false fun z => h ((Rat.lt_iff a b).mpr z)]
theorem eR_inj {a b : Rat} (h : eR a = eR b) : a = b := by
  injection h with h
  injection h with h1 h2
  injection h1 with h1
  injection h2 with h2 _
  injection h2 with h2
  exact Rat.ext h1 (by omega)
theorem eqv_R (a b : Rat) : PyData.eqv (eR a) (eR b) = decide (a = b) := by
  by_cases h : a = b
  · subst h; simp [PyData.eqv, PyData.eqvAll]
  · rw [decide_eq_false h]
    cases hh : PyData.eqv (eR a) (eR b) with
    | false => rfl
    | true =>
      exfalso
      simp [PyData.eqv, PyData.eqvAll] at hh
      exact h (Rat.ext hh.1 (by omega))
end TL
namespace TL
open PySem PySem.Spec PyProof.Rows L2
section
variable {X : Cx} {a b e : Expr} {es : List Expr} {pos : Pos} {K : Fg}
/-! ### the order of data -/
abbrev ltD (x y : D) : Bool := PySem.W.dataLt x y
/-- can be compared -/
def CmpOk (d e : D) : Prop := PySem.W.alike d e = true ∧ d ≠ .none ∧ d.canLay0 = true ∧ e.canLay0 = true ∧ d.depth ≤ 60
def rCmpD (K : Fg) (f : D → D → Bool) : R2 := fun x y H Q => ∃ d e, Dp K H x d ∧ Dp K H y e ∧ CmpOk d e ∧ Q (.bl (f d e)) H
theorem cmp_units {A : Around} (hu : A.units + 64 < cLine) {d e : D} (h : d.depth ≤ 60) : A.units + min d.depth e.depth < cLine := by
  have : min d.depth e.depth ≤ d.depth := Nat.min_le_left _ _
  omega
theorem op_ltD (hu : X.A.units + 64 < cLine) : OpR X (compareOp .Lt) (rCmpD X.K fun d e => ltD d e) := by
  intro pins s σ H x y v u Q I rx ry ⟨d, e, hd, he, ⟨h1, h2, h3, h4, h5⟩, q⟩
  obtain ⟨as, r1⟩ := Dp.reads I d x v hd rx
  obtain ⟨bs, r2⟩ := Dp.reads I e y u he ry
  exact PySem.W.lt_data r1 r2 h1 h2 (cmp_units hu h5) ⟨.bl _, H, I, rfl, q⟩
theorem op_gtD (hu : X.A.units + 64 < cLine) : OpR X (compareOp .Gt) (rCmpD X.K fun d e => ltD e d) := by
  intro pins s σ H x y v u Q I rx ry ⟨d, e, hd, he, ⟨h1, h2, h3, h4, h5⟩, q⟩
  obtain ⟨as, r1⟩ := Dp.reads I d x v hd rx
  obtain ⟨bs, r2⟩ := Dp.reads I e y u he ry
  exact PySem.W.gt_data r1 r2 h1 h2 (cmp_units hu h5) ⟨.bl _, H, I, rfl, q⟩
theorem op_leD (hu : X.A.units + 64 < cLine) : OpR X (compareOp .LtE) (rCmpD X.K fun d e => !ltD e d) := by
  intro pins s σ H x y v u Q I rx ry ⟨d, e, hd, he, ⟨h1, h2, h3, h4, h5⟩, q⟩
  obtain ⟨as, r1⟩ := Dp.reads I d x v hd rx
  obtain ⟨bs, r2⟩ := Dp.reads I e y u he ry
  exact PySem.W.le_data r1 r2 h1 h2 (cmp_units hu h5) ⟨.bl _, H, I, rfl, q⟩
theorem op_geD (hu : X.A.units + 64 < cLine) : OpR X (compareOp .GtE) (rCmpD X.K fun d e => !ltD d e) := by
  intro pins s σ H x y v u Q I rx ry ⟨d, e, hd, he, ⟨h1, h2, h3, h4, h5⟩, q⟩
  obtain ⟨as, r1⟩ := Dp.reads I d x v hd rx
  obtain ⟨bs, r2⟩ := Dp.reads I e y u he ry
  exact PySem.W.ge_data r1 r2 h1 h2 (cmp_units hu h5) ⟨.bl _, H, I, rfl, q⟩
/-- two contents, ints ahead -/
def cCmp (fi : Int → Int → Bool) (fd : D → D → Bool) (x y : C) (G : CK) : Prop := match x, y with
  | .sh (.int i), .sh (.int j) => G (.sh (.bool (fi i j)))
  | x, y => ∃ d e, dC x = some d ∧ dC y = some e ∧ CmpOk d e ∧ G (.sh (.bool (fd d e)))
abbrev rCmpA (K : Fg) (fi : Int → Int → Bool) (fd : D → D → Bool) : R2 := fun x y H Q => rI0 (fun i j => .bl (fi i j)) x y H Q ∨ rCmpD K fd x y H Q
theorem cCmp_cases {fi : Int → Int → Bool} {fd : D → D → Bool} {x y : C} {G : CK} (h : cCmp fi fd x y G) : (∃ i j, x = .sh (.int i) ∧ y = .sh (.int j) ∧ G (.sh (.bool (fi i j)))) ∨ ∃ d e, dC x = some d ∧ dC y = some e ∧ CmpOk d e ∧ G (.sh (.bool (fd d e))) := by
  unfold cCmp at h
  split at h
  · exact .inl ⟨_, _, rfl, rfl, h⟩
  · exact .inr h
theorem ok_cmp {fi : Int → Int → Bool} {fd : D → D → Bool} : OkBin K (rCmpA K fi fd) (cCmp fi fd) := by
  intro F Ω H c1 c2 v1 v2 A1 A2 G Q w r1 r2 h k
  rcases cCmp_cases h with ⟨i, j, rfl, rfl, g⟩ | ⟨d, e, hd, he, ok, g⟩
  · obtain ⟨r1, _⟩ := r1
    obtain ⟨r2, _⟩ := r2
    cases r1
    cases r2
    exact .inl ⟨i, j, rfl, rfl, k.sh (Ext.refl w) (.bl _) g⟩
  · exact .inr ⟨d, e, dC_dp w r1 hd ok.2.2.1, dC_dp w r2 he ok.2.2.2.1, ok, k.sh (Ext.refl w) (.bl _) g⟩
theorem op_ltA (hu : X.A.units + 64 < cLine) : OpR X (compareOp .Lt) (rCmpA X.K (fun i j => decide (i < j)) fun d e => ltD d e) := OpR.or op_lt (op_ltD hu)
theorem op_leA (hu : X.A.units + 64 < cLine) : OpR X (compareOp .LtE) (rCmpA X.K (fun i j => decide (i ≤ j)) fun d e => !ltD e d) := OpR.or op_le (op_leD hu)
theorem op_gtA (hu : X.A.units + 64 < cLine) : OpR X (compareOp .Gt) (rCmpA X.K (fun i j => decide (j < i)) fun d e => ltD e d) := OpR.or op_gt (op_gtD hu)
theorem op_geA (hu : X.A.units + 64 < cLine) : OpR X (compareOp .GtE) (rCmpA X.K (fun i j => decide (j ≤ i)) fun d e => !ltD d e) := OpR.or op_ge (op_geD hu)
end
/-! ### sorting data -/
def leB (x y : D) : Bool := PySem.W.dataLe false (fun d : D => d) x y
def srtD (ds : List D) : List D := ds.mergeSort leB
theorem srtD_perm (ds : List D) : (srtD ds).Perm ds := List.mergeSort_perm ds _
theorem srtD_sorted (ds : List D) : (srtD ds).Pairwise fun x y => leB x y = true :=
  have t := PySem.W.sortLe_total (PyProof.Rows.listOrd PyProof.Rows.itemOrd) false fun d : D => PySem.W.keyToks d
  List.pairwise_mergeSort t.trans (fun a b => by have := t.total a b; rw [Bool.or_eq_true]; exact this) ds

open PySem.W (EachIs AllAlike Sortable) in
theorem each_of_vals {F : Hp} {K : Fg} : ∀ {xs : List V} {us : List Value} {ds : List D}, Vals xs us → Reps K F xs ds → EachIs (fun u d => ∃ x, RelV x u ∧ Rep K F x d) us ds
  | _, _, _, .nil, .nil => .nil
  | _, _, _, .cons r v, .cons p q => .cons ⟨_, r, p⟩ (each_of_vals v q)
open PySem.W (EachIs AllAlike Sortable) in
theorem vals_of_each {F : Hp} {K : Fg} : ∀ {us : List Value} {ds : List D}, EachIs (fun u d => ∃ x, RelV x u ∧ Rep K F x d) us ds → ∃ xs, Vals xs us ∧ Reps K F xs ds
  | _, _, .nil => ⟨[], .nil, .nil⟩
  | _, _, .cons ⟨x, r, p⟩ t => by
    obtain ⟨xs, h1, h2⟩ := vals_of_each t
    exact ⟨x :: xs, .cons r h1, .cons p h2⟩
mutual
theorem reads_old {h h' : Heap} (k : ∀ b o, h.get? b = some o → h'.get? b = some o) : ∀ {d : D} {v : Value} {as : List Addr}, Reads h v d as → Reads h' v d as
  | .none, _, _, .none => .none
  | .bool _, _, _, .bool b => .bool b
  | .int _, _, _, .int i t => .int i t
  | .str _, _, _, .str x t => .str x t
  | .list _, _, _, .list ho hc hd hr => .list (k _ _ ho) hc hd (readsAll_old k hr)
  | .tuple _, _, _, .tuple ho hc hd hr => .tuple (k _ _ ho) hc hd (readsAll_old k hr)
  | .dict kvs, _, _, .dict ho hc hd h1 h2 => .dict (k _ _ ho) hc hd (readsKeys_old k kvs h1) (readsVals_old k kvs h2)
theorem readsAll_old {h h' : Heap} (k : ∀ b o, h.get? b = some o → h'.get? b = some o) : ∀ {ds : List D} {vs : List Value} {as : List Addr}, ReadsAll h vs ds as → ReadsAll h' vs ds as
  | [], _, _, .nil => .nil
  | _ :: _, _, _, .cons a b => .cons (reads_old k a) (readsAll_old k b)
theorem readsKeys_old {h h' : Heap} (k : ∀ b o, h.get? b = some o → h'.get? b = some o) : ∀ (kvs : List (D × D)) {vs : List Value} {as : List Addr}, ReadsAll h vs (kvs.map (·.1)) as → ReadsAll h' vs (kvs.map (·.1)) as
  | [], _, _, .nil => .nil
  | (_, _) :: r, _, _, .cons a b => .cons (reads_old k a) (readsKeys_old k r b)
theorem readsVals_old {h h' : Heap} (k : ∀ b o, h.get? b = some o → h'.get? b = some o) : ∀ (kvs : List (D × D)) {vs : List Value} {as : List Addr}, ReadsAll h vs (kvs.map (·.2)) as → ReadsAll h' vs (kvs.map (·.2)) as
  | [], _, _, .nil => .nil
  | (_, _) :: r, _, _, .cons a b => .cons (reads_old k a) (readsVals_old k r b)
end
section
variable {X : Cx} {a b e : Expr} {es : List Expr} {pos : Pos} {K : Fg}
theorem each_dp {X : Cx} {pins : List (Addr × Obj)} {σ : L2.St} {H : Hp} {s : Shared} (I : Inv X pins σ H s) : ∀ {xs : List V} {us : List Value} {ds : List D}, Vals xs us → DpAll X.K H xs ds → PySem.W.EachIs (fun u d => ∃ as, Reads s.heap u d as) us ds
  | _, _, _, .nil, .nil => .nil
  | _, _, _, .cons r v, .cons p q => .cons (Dp.reads I _ _ _ p r) (each_dp I v q)
def SrtOk (ds : List D) : Prop := PySem.W.AllAlike ds ∧ PySem.W.Sortable ds ∧ PyData.canLayAll0 ds = true ∧ ∀ d ∈ ds, d.depth ≤ 60
theorem cr_sortedD (hu : X.A.units + 64 < cLine) : CallR X (.builtin "sorted") (fun vs H Q => ∃ (F : Hp) (a : Addr) (xs : List V) (ds : List D), Sub F H ∧ vs = [V.ref a] ∧ SqL X.K H a xs ∧ Reps X.K F xs ds ∧ SrtOk ds ∧
    ∀ (ys : List V) (p : Addr), Reps X.K F ys (srtD ds) → H p = none → Q (.ref p) (upd H p (.lst ys))) := by
  intro pins s σ H vs us Q I r h
  obtain ⟨F, a, xs, ds, sub, rfl, hs, rep, ⟨hal, hso, hcl, hdp⟩, q⟩ := h
  obtain ⟨its, rv, hl, hz⟩ := I.list hs
  rw [Vals.ref1 r]
  have hE := each_dp I rv (rep.dp sub hcl)
  have hE' : PySem.W.EachIs (fun u d => ∃ as, Reads (PySem.W.sortingHeap (PySem.W.copyHeap s.heap its) (s.heap.objs.size + 1) its) u d as) its ds :=
    PySem.W.EachIs.mono (fun u d ⟨as, h⟩ => ⟨as, reads_old (fun b o e => PySem.W.sorting_copy_old e) h⟩) hE
  have hLz : its.length ≤ sizeLine := by rw [← rv.length]; exact hz
  refine PySem.W.sorted_vals hl.isList (PySem.W.SortsAt.data (s := { s with heap := PySem.W.sortingHeap (PySem.W.copyHeap s.heap its) (s.heap.objs.size + 1) its }) hE' hal hso fun d hd => ?_) hLz ?_
  · have := hdp d hd
    show X.A.units + 1 + 1 + d.depth < cLine
    omega
  · generalize hout : PySem.W.sortVals _ false its its = out
    have ko : PySem.W.KeyedOut false (ds.map fun d => d) its out := by
      rw [List.map_id']
      exact ⟨_, its, hal, hout.symm, hE'⟩
    have er := PySem.W.keyedOut_each (R := fun u d => ∃ x, RelV x u ∧ Rep X.K F x d) (fun d : D => d) ko (each_of_vals rv rep)
    obtain ⟨ys, h1, h2⟩ := vals_of_each er
    obtain ⟨ep, he'⟩ := PyProof.Rows.sortedAll_at s.heap its out.toArray
    have hlen : ys.length ≤ sizeLine := by
      have e1 : ys.length = (srtD ds).length := h2.length
      rw [e1, (srtD_perm ds).length_eq, ← rep.length]
      exact hz
    exact ⟨.ref _, upd H (s.heap.objs.size + 1) (.lst ys), I.laid (t' := s.toks) (fun _ _ => PyProof.Rows.sortedAll_old) (Nat.le_succ _) ⟨hlen, out, ep, h1, he'⟩, rfl, q _ _ h2 (I.hok.fresh (Nat.le_succ _))⟩
def cSortD (c : C) (G : CK) : Prop := ∃ ds, lsC c = some ds ∧ SrtOk ds ∧ G (.ol (srtD ds))
theorem vc_sortD {p : Pos} {ta : TC} (hu : X.A.units + 64 < cLine) (ha : SE X a ta) (hg : Gl X "sorted") (hm : X.mg "sorted" = none) (hs : starEach [a] X.env = (false, eval a X.env) :: starEach [] X.env := by rfl) : VC X (.Call (.Name "sorted" p) [a] [] pos) (cUn cSortD ta) :=
  vc_b1 (cr_sortedD hu) (fun F Ω H c v A G Q w r ⟨ds, hl, ok, h⟩ k => by
    obtain ⟨a, vs, rfl, ea, qa⟩ := lsC_get w r hl
    exact ⟨F, a, vs, ds, w.sub, rfl, .inl (.inl ea), qa, ok, fun ys p h1 n => k.ol w n h1 h⟩) hg hm (by decide +kernel) ha hs
end
end TL
namespace TL
open PySem PySem.Spec PyProof.Rows L2
/-! ### dicts whose keys are ints and texts -/
def valD {κ : Type} [DecidableEq κ] (kvs : List (κ × D)) (k : κ) : Option D := (kvs.find? fun p => decide (p.1 = k)).map (·.2)
def putD {κ : Type} [DecidableEq κ] (kvs : List (κ × D)) (k : κ) (d : D) : List (κ × D) :=
  if (kvs.any fun p => decide (p.1 = k)) = true then kvs.map (fun p => if p.1 = k then (p.1, d) else p) else kvs ++ [(k, d)]
def isK : D → Key → Bool
  | .int i, .inl j => decide (i = j)
  | .str x, .inr y => decide (x = y)
  | _, _ => false
theorem isK_kD (k j : Key) : isK (kD k) j = decide (k = j) := by
  cases k <;> cases j <;> simp [isK, kD]
theorem isK_kTD (k : List Key) (j : Key) : isK (kTD k) j = false := by
  cases j <;> rfl
def valP (ds : List (D × D)) (k : Key) : Option D := (ds.find? fun p => isK p.1 k).map (·.2)
theorem valP_map (kvs : List (Key × D)) (k : Key) : valP (kvs.map fun p => (kD p.1, p.2)) k = valD kvs k := by
  induction kvs with
  | nil => rfl
  | cons p r ih =>
    unfold valP valD at *
    simp only [List.map_cons, List.find?_cons, isK_kD]
    by_cases h : p.1 = k
    · simp [h]
    · simp only [h, decide_false]; exact ih
theorem RKV.val {K : Fg} {F : Hp} {κ : Type} [DecidableEq κ] (k : κ) : ∀ {ks : List (κ × V)} {kvs : List (κ × D)}, RKV K F ks kvs → (valV ks k = none ∧ valD kvs k = none) ∨ ∃ v d, valV ks k = some v ∧ valD kvs k = some d ∧ Rep K F v d
  | _, _, .nil => .inl ⟨rfl, rfl⟩
  | _, _, .cons (k := j) (v := v) (d := d) r t => by
    by_cases h : j = k
    · exact .inr ⟨v, d, by simp [valV, h], by simp [valD, h], r⟩
    · rcases t.val k with ⟨h1, h2⟩ | ⟨v', d', h1, h2, h3⟩
      · refine .inl ⟨?_, ?_⟩
        · unfold valV at *; simp only [List.find?_cons, h, decide_false]; exact h1
        · unfold valD at *; simp only [List.find?_cons, h, decide_false]; exact h2
      · refine .inr ⟨v', d', ?_, ?_, h3⟩
        · unfold valV at *; simp only [List.find?_cons, h, decide_false]; exact h1
        · unfold valD at *; simp only [List.find?_cons, h, decide_false]; exact h2
theorem RKV.any {K : Fg} {F : Hp} {κ : Type} [DecidableEq κ] (k : κ) : ∀ {ks : List (κ × V)} {kvs : List (κ × D)}, RKV K F ks kvs → (ks.any fun p => decide (p.1 = k)) = kvs.any fun p => decide (p.1 = k)
  | _, _, .nil => rfl
  | _, _, .cons r t => by simp [t.any k]
theorem RKV.length {K : Fg} {F : Hp} {κ : Type} : ∀ {ks : List (κ × V)} {kvs : List (κ × D)}, RKV K F ks kvs → ks.length = kvs.length
  | _, _, .nil => rfl
  | _, _, .cons _ t => congrArg (· + 1) t.length
theorem RKV.keys {K : Fg} {F : Hp} {κ : Type} : ∀ {ks : List (κ × V)} {kvs : List (κ × D)}, RKV K F ks kvs → ks.map (·.1) = kvs.map (·.1)
  | _, _, .nil => rfl
  | _, _, .cons _ t => by simp [t.keys]
theorem RKV.repl {K : Fg} {F : Hp} {κ : Type} [DecidableEq κ] (k : κ) {v : V} {d : D} (h : Rep K F v d) : ∀ {ks : List (κ × V)} {kvs : List (κ × D)}, RKV K F ks kvs →
    RKV K F (ks.map fun p => if p.1 = k then (p.1, v) else p) (kvs.map fun p => if p.1 = k then (p.1, d) else p)
  | _, _, .nil => .nil
  | _, _, .cons (k := j) r t => by
    by_cases e : j = k
    · simp only [List.map_cons, e, if_true]; exact .cons h (t.repl k h)
    · simp only [List.map_cons, e, if_false]; exact .cons r (t.repl k h)
theorem RKV.append {K : Fg} {F : Hp} {κ : Type} : ∀ {ks us : List (κ × V)} {kvs uvs : List (κ × D)}, RKV K F ks kvs → RKV K F us uvs → RKV K F (ks ++ us) (kvs ++ uvs)
  | _, _, _, _, .nil, h => h
  | _, _, _, _, .cons r t, h => .cons r (t.append h)
theorem RKV.put {K : Fg} {F : Hp} {κ : Type} [DecidableEq κ] {ks : List (κ × V)} {kvs : List (κ × D)} (r : RKV K F ks kvs) (k : κ) {v : V} {d : D} (h : Rep K F v d) : RKV K F (putK ks k v) (putD kvs k d) := by
  unfold putK putD
  rw [r.any k]
  split
  · exact r.repl k h
  · exact r.append (.cons h .nil)
theorem RepK.val {K : Fg} {F : Hp} (k : Key) : ∀ {ks : List (Key × V)} {ds : List (D × D)}, RepK K F ks ds → (valV ks k = none ∧ valP ds k = none) ∨ ∃ v d, valV ks k = some v ∧ valP ds k = some d ∧ Rep K F v d
  | _, _, .nil => .inl ⟨rfl, rfl⟩
  | _, _, .cons (k := j) (v := v) (d := d) r t => by
    by_cases h : j = k
    · exact .inr ⟨v, d, by simp [valV, h], by simp [valP, isK_kD, h], r⟩
    · rcases RepK.val k t with ⟨h1, h2⟩ | ⟨v', d', h1, h2, h3⟩
      · refine .inl ⟨?_, ?_⟩
        · unfold valV at *; simp only [List.find?_cons, h, decide_false]; exact h1
        · unfold valP at *; simp only [List.find?_cons, isK_kD, h, decide_false]; exact h2
      · refine .inr ⟨v', d', ?_, ?_, h3⟩
        · unfold valV at *; simp only [List.find?_cons, h, decide_false]; exact h1
        · unfold valP at *; simp only [List.find?_cons, isK_kD, h, decide_false]; exact h2
theorem RepT.valP {K : Fg} {F : Hp} (k : Key) : ∀ {ks : List (List Key × V)} {ds : List (D × D)}, RepT K F ks ds → TL.valP ds k = none
  | _, _, .nil => rfl
  | _, _, .cons r t => by
    have := RepT.valP k t
    unfold TL.valP at *
    simp only [List.find?_cons, isK_kTD]
    exact this
theorem RepK.keys {K : Fg} {F : Hp} : ∀ {ks : List (Key × V)} {ds : List (D × D)}, RepK K F ks ds → ds.map (·.1) = (ks.map (·.1)).map kD
  | _, _, .nil => rfl
  | _, _, .cons r t => by simp [t.keys]
theorem RepT.head {K : Fg} {F : Hp} : ∀ {ks : List (List Key × V)} {ds : List (D × D)}, RepT K F ks ds → ∀ p ∈ ds, ∃ k, p.1 = kTD k
  | _, _, .nil, p, h => nomatch h
  | _, _, .cons r t, p, h => by
    rcases List.mem_cons.mp h with rfl | h
    · exact ⟨_, rfl⟩
    · exact t.head p h
/-- keys of a frozen dict: ints and texts, or none at all -/
def keysP (ds : List (D × D)) : Prop := ds = [] ∨ ∃ p ∈ ds, ∃ k : Key, p.1 = kD k
theorem kD_kTD {k : Key} {j : List Key} : kD k ≠ kTD j := by cases k <;> exact fun z => nomatch z
/-- a dict of such keys stands there -/
theorem dic_rd {K : Fg} {F : Hp} {Ω : Om} {H : Hp} {v : V} {A : List Addr} {ds : List (D × D)} (w : Wd F Ω H) (r : RC K F Ω H (.sh (.dict ds)) v A) (h : keysP ds) : ∃ a kvs, v = .ref a ∧ F a = some (.dK kvs) ∧ Rd H a (.dK kvs) ∧ RepK K F kvs ds := by
  obtain ⟨r, _⟩ := r
  cases r with
  | dK e q => exact ⟨_, _, rfl, e, w.sub.rd e, q⟩
  | dT e n q =>
    obtain rfl | ⟨p, hp, k, hk⟩ := h
    · cases q; exact absurd rfl n
    obtain ⟨j, hj⟩ := q.head p hp
    exact absurd (hk.symm.trans hj) kD_kTD
def keyC : C → Option Key
  | .sh (.int i) => some (.inl i)
  | .sh (.str x) => some (.inr x)
  | _ => none
theorem keyC_v {K : Fg} {F : Hp} {Ω : Om} {H : Hp} {c : C} {v : V} {A : List Addr} {k : Key} (r : RC K F Ω H c v A) (h : keyC c = some k) : v = kV k := by
  cases c with
  | sh d =>
    obtain ⟨r, _⟩ := r
    cases d with
    | int i => cases h; cases r; rfl
    | str i => cases h; cases r; rfl
    | _ => cases h
  | _ => cases h
/-- what such a dict holds at a key -/
def dicAt : C → Key → Option (Option D)
  | .od kvs, k => some (valD kvs k)
  | .sh (.dict ds), k => some (valP ds k)
  | _, _ => none
section
variable {X : Cx} {a b e : Expr} {es : List Expr} {pos pos' : Pos} {K : Fg}
theorem dget_od {K : Fg} {F : Hp} {Ω : Om} {H : Hp} {v : V} {A : List Addr} {kvs : List (Key × D)} (r : RC K F Ω H (.od kvs) v A) (k : Key) : ∃ a, v = .ref a ∧ ((DGet H a (kV k) none ∧ valD kvs k = none) ∨ ∃ u d, DGet H a (kV k) (some u) ∧ valD kvs k = some d ∧ Rep K F u d) := by
  obtain ⟨a, ks, rfl, _, ha, q⟩ := r
  refine ⟨a, rfl, ?_⟩
  have g := DGet.k (k := k) ha
  rcases q.val k with ⟨h1, h2⟩ | ⟨u, d, h1, h2, h3⟩
  · rw [h1] at g; exact .inl ⟨g, h2⟩
  · rw [h1] at g; exact .inr ⟨u, d, g, h2, h3⟩
theorem dget_sh {K : Fg} {F : Hp} {Ω : Om} {H : Hp} {v : V} {A : List Addr} {ds : List (D × D)} (w : Wd F Ω H) (r : RC K F Ω H (.sh (.dict ds)) v A) (hk : keysP ds) (k : Key) : ∃ a, v = .ref a ∧ ((DGet H a (kV k) none ∧ valP ds k = none) ∨ ∃ u d, DGet H a (kV k) (some u) ∧ valP ds k = some d ∧ Rep K F u d) := by
  obtain ⟨a, kvs, rfl, _, rd, q⟩ := dic_rd w r hk
  refine ⟨a, rfl, ?_⟩
  have g : DGet H a (kV k) (valV kvs k) := .inl ⟨kvs, k, rd, rfl, rfl⟩
  rcases q.val k with ⟨h1, h2⟩ | ⟨u, d, h1, h2, h3⟩
  · rw [h1] at g; exact .inl ⟨g, h2⟩
  · rw [h1] at g; exact .inr ⟨u, d, g, h2, h3⟩
theorem valP_keys {ds : List (D × D)} {k : Key} {d : D} (h : valP ds k = some d) : keysP ds := by
  unfold valP at h
  cases hf : ds.find? fun p => isK p.1 k with
  | none => rw [hf] at h; cases h
  | some p =>
    refine .inr ⟨p, List.mem_of_find?_eq_some hf, ?_⟩
    have := List.find?_some hf
    obtain ⟨x, y⟩ := p
    cases x with
    | int i => exact ⟨.inl i, rfl⟩
    | str i => exact ⟨.inr i, rfl⟩
    | _ => cases k <;> simp [isK] at this
/-- d[k] -/
def cDGet (x y : C) (G : CK) : Prop := ∃ k d, keyC y = some k ∧ dicAt x k = some (some d) ∧ G (.sh d)
theorem ok_dget : OkBin K (fun x y H Q => ∃ a v, x = .ref a ∧ DGet H a y (some v) ∧ Q v H) cDGet := by
  intro F Ω H c1 c2 v1 v2 A1 A2 G Q w r1 r2 ⟨k, d, hk, hd, g⟩ fin
  cases keyC_v r2 hk
  cases c1 with
  | od kvs =>
    have hd : valD kvs k = some d := by simpa [dicAt] using hd
    obtain ⟨a, rfl, ⟨_, h2⟩ | ⟨u, d', h1, h2, h3⟩⟩ := dget_od r1 k
    · rw [h2] at hd; cases hd
    · rw [h2] at hd; cases hd
      exact ⟨a, u, rfl, h1, fin.sh (Ext.refl w) h3 g⟩
  | sh x =>
    cases x with
    | dict ds =>
      have hd : valP ds k = some d := by simpa [dicAt] using hd
      obtain ⟨a, rfl, ⟨_, h2⟩ | ⟨u, d', h1, h2, h3⟩⟩ := dget_sh w r1 (valP_keys hd) k
      · rw [h2] at hd; cases hd
      · rw [h2] at hd; cases hd
        exact ⟨a, u, rfl, h1, fin.sh (Ext.refl w) h3 g⟩
    | _ => simp [dicAt] at hd
  | _ => simp [dicAt] at hd
theorem vc_dget {ta tb : TC} (hu : X.A.units + 1 < cLine) (ha : SE X a ta) (hb : SE X b tb) (hs : NoSl b := by exact fun _ _ => rfl) : VC X (.Subscript a b pos) (cBin cDGet ta tb) :=
  ⟨fun B => pe_imp (pe_dget hu (ha.pe B) (hb.pe B) hs) fun σ H Q h => up_bin ok_dget h⟩
/-- k in d -/
def keysC : C → Prop
  | .od _ => True
  | .sh (.dict ds) => keysP ds
  | _ => False
def cDIn (f : Bool → Bool) (x y : C) (G : CK) : Prop := ∃ k o, keyC x = some k ∧ keysC y ∧ dicAt y k = some o ∧ G (.sh (.bool (f o.isSome)))
theorem ok_dinG (f : Bool → Bool) : OkBin K (fun y x H Q => ∃ a o, x = .ref a ∧ DGet H a y o ∧ Q (.bl (f o.isSome)) H) (cDIn f) := by
  intro F Ω H c1 c2 v1 v2 A1 A2 G Q w r1 r2 ⟨k, o, hk, hc, hd, g⟩ fin
  cases keyC_v r1 hk
  have go : ∀ {o' : Option D} {u : Option V} {a : Addr}, DGet H a (kV k) u → u.isSome = o.isSome → v2 = .ref a → ∃ a o, v2 = .ref a ∧ DGet H a (kV k) o ∧ Q (.bl (f o.isSome)) H := fun {o' u a} h e ev => ⟨a, u, ev, h, by rw [e]; exact fin.sh (Ext.refl w) (.bl _) g⟩
  cases c2 with
  | od kvs =>
    have hd : valD kvs k = o := by simpa [dicAt] using hd
    obtain ⟨a, rfl, ⟨h1, h2⟩ | ⟨u, d', h1, h2, h3⟩⟩ := dget_od r2 k
    · exact go (o' := o) h1 (by rw [← hd, h2]; rfl) rfl
    · exact go (o' := o) h1 (by rw [← hd, h2]; rfl) rfl
  | sh x =>
    cases x with
    | dict ds =>
      have hd : valP ds k = o := by simpa [dicAt] using hd
      obtain ⟨a, rfl, ⟨h1, h2⟩ | ⟨u, d', h1, h2, h3⟩⟩ := dget_sh w r2 hc k
      · exact go (o' := o) h1 (by rw [← hd, h2]; rfl) rfl
      · exact go (o' := o) h1 (by rw [← hd, h2]; rfl) rfl
    | _ => exact hc.elim
  | _ => exact hc.elim
theorem vc_din {ta tb : TC} (hu : X.A.units + 1 < cLine) (ha : SE X a ta) (hb : SE X b tb) (hm : behindInMarks .In b = false := by rfl) : VC X (.Compare a [.In] [b] pos) (cBin (cDIn id) ta tb) :=
  vc_pc (fun B => pc_imp (pc_din hu (ha.pe B) (hb.pe B)) fun σ H Q h => up_bin (ok_dinG id) h) hm
theorem vb_din {ta tb : TC} (hu : X.A.units + 1 < cLine) (ha : SE X a ta) (hb : SE X b tb) (hm : behindInMarks .In b = false := by rfl) : VB X (.Compare a [.In] [b] pos) (fun ρ G => cBin (cDIn id) ta tb ρ fun c => blC c G) :=
  vb_pc (fun B => pc_imp (pc_din hu (ha.pe B) (hb.pe B)) fun σ H Q h => up_bin (ok_dinG id) h) hm
theorem vc_dnotin {ta tb : TC} (hu : X.A.units + 1 < cLine) (ha : SE X a ta) (hb : SE X b tb) (hm : behindInMarks .NotIn b = false := by rfl) : VC X (.Compare a [.NotIn] [b] pos) (cBin (cDIn not) ta tb) :=
  vc_pc (fun B => pc_imp (pc_dnotin hu (ha.pe B) (hb.pe B)) fun σ H Q h => up_bin (ok_dinG not) h) hm
theorem vb_dnotin {ta tb : TC} (hu : X.A.units + 1 < cLine) (ha : SE X a ta) (hb : SE X b tb) (hm : behindInMarks .NotIn b = false := by rfl) : VB X (.Compare a [.NotIn] [b] pos) (fun ρ G => cBin (cDIn not) ta tb ρ fun c => blC c G) :=
  vb_pc (fun B => pc_imp (pc_dnotin hu (ha.pe B) (hb.pe B)) fun σ H Q h => up_bin (ok_dinG not) h) hm
end
end TL
namespace TL
open PySem PySem.Spec PyProof.Rows L2
section
variable {X : Cx} {a b e o elt iter tg : Expr} {es ifs : List Expr} {pos pos' : Pos} {K : Fg} {st : Stmt} {t u : TR}
/-! ### a dict of one's own is stored into -/
theorem En.own1D {B : Bs} {F : Hp} {Ω : Om} {H : Hp} {σ : L2.St} {ρ : List C} (e : En K B F Ω H σ ρ) {i : Nat} {kvs : List (Key × D)} (hc : ρ[i]? = some (.od kvs)) :
    ∃ a ks, σ[i]? = some (some (.ref a)) ∧ H a = some (.dK ks) ∧ RKV K F ks kvs ∧ ∀ ks' kvs', RKV K F ks' kvs' → En K B F Ω (upd H a (.dK ks')) σ (ρ.set i (.od kvs')) := by
  obtain ⟨As, h1, h2, h3⟩ := e.own
  obtain ⟨v0, hv0, r0⟩ := h1 i _ hc (by simp)
  obtain ⟨a, vs, rfl, hA, ha, q⟩ := r0
  have ia := h2 i a (by rw [hA]; exact List.mem_cons_self)
  refine ⟨a, vs, hv0, ha, q, fun vs' ds' r' => ?_⟩
  obtain ⟨v2, A2, hv2, r2, ow2, fin2⟩ := e.chg hc (c' := .od ds') (by simp)
  rw [hv0] at hv2
  cases hv2
  obtain ⟨a2, vs2, e2, hA2, ha2, q2⟩ := r2
  cases e2
  refine fin2 F Ω _ [a] (e.ex.put ia.2.2.2 ia.1 ia.2.1) (Gr.refl _) (fun b hb hh => ⟨rfl, rfl, fun o h _ => ?_⟩) (fun _ _ h => h) ⟨a, vs', rfl, rfl, upd_same, r'⟩ (fun c m => by rw [List.mem_singleton.mp m]; exact ⟨ia.1, ia.2.1⟩) (fun c m => .inl (by rw [hA2]; exact m))
  rw [upd_ne (fun z => hb (by rw [hA2, z]; exact List.mem_cons_self))]
  exact h
def odAt (ρ : List C) (i : Nat) (G : List (Key × D) → Prop) : Prop := match ρ[i]? with
  | some (.od ds) => G ds
  | _ => False
theorem odAt_get {ρ : List C} {i : Nat} {G : List (Key × D) → Prop} (h : odAt ρ i G) : ∃ ds, ρ[i]? = some (.od ds) ∧ G ds := by
  unfold odAt at h
  split at h
  · exact ⟨_, by assumption, h⟩
  · exact h.elim
def kyC (c : C) (G : Key → Prop) : Prop := match c with
  | .sh (.int i) => G (.inl i)
  | .sh (.str x) => G (.inr x)
  | _ => False
theorem kyC_get {c : C} {G : Key → Prop} (h : kyC c G) : ∃ k, keyC c = some k ∧ G k := by
  unfold kyC at h
  split at h
  · exact ⟨_, rfl, h⟩
  · exact ⟨_, rfl, h⟩
  · exact h.elim
theorem fz_eq' {te : TC} {ρ : List C} {k : D → Prop} (h : te ρ fun c => fz c k) : te ρ fun c => fz c fun x => ∃ x', C.sh x = .sh x' ∧ k x' := fz_eq h
/-- x[k] = e -/
theorem vs_dput (i : Nat) (hu : X.A.units + 1 < cLine) {te tk : TC} {k v : Expr} (hv : PE X o (tVar i)) (hk : SE X k tk) (he : VC X v te) (hs : swapsWith v (some (.Subscript o k pos')) pos.line X.env = pure false := by rfl) :
    VS X (.Assign [.Subscript o k pos'] v pos) (fun d ρ => odAt ρ i fun _ => te ρ fun c => fz c fun y => tk ρ fun c2 => kyC c2 fun key => odAt ρ i fun kvs => kvs.length < sizeLine ∧ d.nx (ρ.set i (.od (putD kvs key y)))) := by
  refine ⟨fun B => ps_imp (ps_dput hu hv (hk.pe B) (he.vd.vc.pe B) hs) fun De σ H ⟨F, Ω, ρ, d, en, g, kk⟩ => ?_⟩
  obtain ⟨kvs0, hc0, g⟩ := odAt_get g
  refine ⟨F, Ω, ρ, fun c => ∃ y, c = .sh y ∧ tk ρ fun c2 => kyC c2 fun key => odAt ρ i fun kvs => kvs.length < sizeLine ∧ d.nx (ρ.set i (.od (putD kvs key y))), en, ?_, fun c v F' Ω' H' A x r ow f ⟨y, hy, gy⟩ => ?_⟩
  · have m : (fun c => fz c fun x => ∃ x', C.sh x = .sh x' ∧ tk ρ fun c2 => kyC c2 fun key => odAt ρ i fun kvs => kvs.length < sizeLine ∧ d.nx (ρ.set i (.od (putD kvs key x')))) = fun c => fz c fun y => tk ρ fun c2 => kyC c2 fun key => odAt ρ i fun kvs => kvs.length < sizeLine ∧ d.nx (ρ.set i (.od (putD kvs key y))) := by
      funext c
      cases c <;> simp [fz]
    show te ρ fun c => fz c fun x => ∃ x', C.sh x = .sh x' ∧ _
    rw [m]
    exact g
  · subst hy
    have en' := en.ext x
    obtain ⟨a, ks, hσ, ha, q, _⟩ := en'.own1D hc0
    refine ⟨.ref a, hσ, F', Ω', ρ, _, en', gy, fun c2 v2 F2 Ω2 H2 A2 x2 r2 ow2 g2 => ?_⟩
    obtain ⟨key, hkey, g2⟩ := kyC_get g2
    obtain ⟨kvs', hc', hlen, g3⟩ := odAt_get g2
    obtain ⟨a', ks', hσ', ha', q', fin⟩ := (en'.ext x2).own1D hc'
    rw [hσ] at hσ'
    cases hσ'
    cases keyC_v r2 hkey
    exact ⟨a, _, rfl, DPut.k ha' (by rw [q'.length]; exact hlen), kk.nx σ F2 Ω2 _ _ (x.sub.trans x2.sub) (fin _ _ (q'.put key (r.1.gr x2.sub))) g3⟩
/-! ### a dict stands locked while it is walked -/
def Bs.lock (B : Bs) (a : Addr) (od : Obj) (u : HO) : Bs := ⟨upd B.F a u, B.Ω, upd B.H a (.frz od u)⟩
theorem om_none {F : Hp} {Ω : Om} {H : Hp} (w : Wd F Ω H) {a : Addr} {u : HO} (h : F a = some u) : Ω a = none := by
  cases e : Ω a with
  | none => rfl
  | some I => rw [(w.om a I e).1] at h; cases h
theorem Ext.lock {B : Bs} {F : Hp} {Ω : Om} {H : Hp} (x : Ext B.F B.Ω B.H F Ω H) {a : Addr} {u : HO} (od : Obj) (hd : isDic u = true) (hF : F a = some u) (hH : H a = some u) : Ext (B.lock a od u).F (B.lock a od u).Ω (B.lock a od u).H F Ω (upd H a (.frz od u)) where
  sub := fun b v e => by
    by_cases z : b = a
    · rw [z] at e ⊢
      have e : upd B.F a u a = some v := e
      rw [upd_same] at e; cases e; exact hF
    · have e : upd B.F a u b = some v := e
      rw [upd_ne z] at e; exact x.sub b v e
  new := fun b e => by
    show F b = upd B.F a u b
    by_cases z : b = a
    · rw [z, upd_same]; exact hF
    · rw [upd_ne z]
      have e : upd B.H a (.frz od u) b ≠ none := e
      rw [upd_ne z] at e; exact x.new b e
  keep := fun b v e w => by
    have e : upd B.H a (.frz od u) b = some v := e
    by_cases z : b = a
    · rw [z, upd_same] at e ⊢; exact e
    · rw [upd_ne z] at e ⊢; exact x.keep b v e w
  here := fun b e => by
    by_cases z : b = a
    · rw [z, upd_same]; simp
    · have e : upd B.H a (.frz od u) b ≠ none := e
      rw [upd_ne z] at e ⊢; exact x.here b e
  omg := x.omg
  omn := fun b e => by
    by_cases z : b = a
    · rw [z]
      have o1 := om_none x.wd hF
      rw [o1]
      show none = B.Ω a
      cases q : B.Ω a with
      | none => rfl
      | some I => rw [x.omg a I q] at o1; cases o1
    · have e : upd B.H a (.frz od u) b ≠ none := e
      rw [upd_ne z] at e; exact x.omn b e
  wd := ⟨fun b v e => by
    by_cases z : b = a
    · rw [z] at e ⊢; rw [hF] at e; cases e; rw [upd_same]; exact .inr ⟨hd, od, rfl⟩
    · rw [upd_ne z]; exact x.wd.sub b v e, fun b I e => by
    have z : b ≠ a := fun z => by rw [z, om_none x.wd hF] at e; cases e
    rw [upd_ne z]; exact x.wd.om b I e, fun b vs e => by
    by_cases z : b = a
    · rw [z, upd_same] at e; cases e
    · rw [upd_ne z] at e; exact x.wd.tp b vs e⟩
theorem Ext.unlock {B : Bs} {F F' : Hp} {Ω Ω' : Om} {H H' : Hp} (x : Ext B.F B.Ω B.H F Ω H) {a : Addr} {u : HO} {od : Obj} (hd : isDic u = true) (hF : F a = some u) (hH : H a = some u) (y : Ext (B.lock a od u).F (B.lock a od u).Ω (B.lock a od u).H F' Ω' H') :
    H' a = some (.frz od u) ∧ Ext B.F B.Ω B.H F' Ω' (upd H' a u) := by
  have fa : F' a = some u := by
    have := y.sub a u (show upd B.F a u a = some u from upd_same)
    exact this
  have oB : B.Ω a = none := by
    cases q : B.Ω a with
    | none => rfl
    | some I => have := x.omg a I q; rw [om_none x.wd hF] at this; cases this
  refine ⟨y.keep a _ (show upd B.H a (.frz od u) a = _ from upd_same) oB, ?_⟩
  exact {
    sub := fun b v e => by
      by_cases z : b = a
      · rw [z] at e ⊢
        have := x.sub a v e
        rw [hF] at this; cases this; exact fa
      · exact y.sub b v (by show upd B.F a u b = some v; rw [upd_ne z]; exact e)
    new := fun b e => by
      by_cases z : b = a
      · rw [z] at e ⊢
        rw [fa, ← hF]; exact x.new a e
      · have := y.new b (by show upd B.H a (.frz od u) b ≠ none; rw [upd_ne z]; exact e)
        rw [this]; show upd B.F a u b = B.F b; rw [upd_ne z]
    keep := fun b v e w => by
      by_cases z : b = a
      · rw [z] at e w ⊢
        have := x.keep a v e w
        rw [hH] at this; cases this; exact upd_same
      · rw [upd_ne z]; exact y.keep b v (by show upd B.H a (.frz od u) b = some v; rw [upd_ne z]; exact e) w
    here := fun b e => by
      by_cases z : b = a
      · rw [z, upd_same]; simp
      · rw [upd_ne z]; exact y.here b (by show upd B.H a (.frz od u) b ≠ none; rw [upd_ne z]; exact e)
    omg := y.omg
    omn := fun b e => by
      by_cases z : b = a
      · rw [z, om_none y.wd fa, oB]
      · exact y.omn b (by show upd B.H a (.frz od u) b ≠ none; rw [upd_ne z]; exact e)
    wd := ⟨fun b v e => by
      by_cases z : b = a
      · rw [z] at e ⊢; rw [fa] at e; cases e; exact .inl upd_same
      · rw [upd_ne z]; exact y.wd.sub b v e, fun b I e => by
      have z : b ≠ a := fun z => by rw [z, om_none y.wd fa] at e; cases e
      rw [upd_ne z]; exact y.wd.om b I e, fun b vs e => by
      by_cases z : b = a
      · rw [z, upd_same] at e; cases e; cases hd
      · rw [upd_ne z] at e; exact y.wd.tp b vs e⟩ }
/-- a content does not lie at a frozen address -/
theorem RC.upd {F : Hp} {Ω : Om} {H : Hp} {c : C} {v : V} {A : List Addr} {a : Addr} {o : HO} (r : RC K F Ω H c v A) (h : a ∉ A) : RC K F Ω (L2.upd H a o) c v A :=
  r.go (Gr.refl _) (fun b m o' e => by rw [upd_ne (fun z => h (by rw [← z]; exact m))]; exact e) fun _ _ h => h
theorem En.lock {B : Bs} {F : Hp} {Ω : Om} {H : Hp} {σ : L2.St} {ρ : List C} (e : En K B F Ω H σ ρ) {a : Addr} {u : HO} (od : Obj) (hd : isDic u = true) (hF : F a = some u) (hH : H a = some u) : En K (B.lock a od u) F Ω (upd H a (.frz od u)) σ ρ := by
  obtain ⟨As, h1, h2, h3⟩ := e.own
  have na : ∀ i, a ∉ As i := fun i m => by have := (h2 i a m).1; rw [hF] at this; cases this
  refine ⟨e.ex.lock od hd hF hH, e.len, As, fun i c hc hn => ?_, fun i b m => ?_, h3⟩
  · obtain ⟨v, hv, r⟩ := h1 i c hc hn
    exact ⟨v, hv, r.upd (na i)⟩
  · have z : b ≠ a := fun z => na i (by rw [← z]; exact m)
    obtain ⟨a1, a2, a3, a4⟩ := h2 i b m
    refine ⟨a1, a2, by rw [upd_ne z]; exact a3, ?_⟩
    show upd B.H a (.frz od u) b = none
    rw [upd_ne z]; exact a4
theorem En.unlock {B : Bs} {F F' : Hp} {Ω Ω' : Om} {H H' : Hp} {σ' : L2.St} {ρ' : List C} (x : Ext B.F B.Ω B.H F Ω H) {a : Addr} {u : HO} {od : Obj} (hd : isDic u = true) (hF : F a = some u) (hH : H a = some u) (e : En K (B.lock a od u) F' Ω' H' σ' ρ') :
    H' a = some (.frz od u) ∧ En K B F' Ω' (upd H' a u) σ' ρ' := by
  obtain ⟨k, y⟩ := x.unlock hd hF hH e.ex
  obtain ⟨As, h1, h2, h3⟩ := e.own
  have fa : F' a = some u := e.ex.sub a u (show upd B.F a u a = some u from upd_same)
  have na : ∀ i, a ∉ As i := fun i m => by have := (h2 i a m).1; rw [fa] at this; cases this
  refine ⟨k, y, e.len, As, fun i c hc hn => ?_, fun i b m => ?_, h3⟩
  · obtain ⟨v, hv, r⟩ := h1 i c hc hn
    exact ⟨v, hv, r.upd (na i)⟩
  · have z : b ≠ a := fun z => na i (by rw [← z]; exact m)
    obtain ⟨a1, a2, a3, a4⟩ := h2 i b m
    refine ⟨a1, a2, by rw [upd_ne z]; exact a3, ?_⟩
    have : upd B.H a (.frz od u) b = none := a4
    rw [upd_ne z] at this
    exact this
/-- .. it stood locked before -/
theorem upd_eta {H : Hp} {a : Addr} {o : HO} (h : H a = some o) : L2.upd H a o = H := by
  funext b
  by_cases z : b = a
  · rw [z, upd_same, h]
  · rw [upd_ne z]
theorem Ext.lock2 {B : Bs} {F : Hp} {Ω : Om} {H : Hp} (x : Ext B.F B.Ω B.H F Ω H) {a : Addr} {u : HO} {od : Obj} (hF : F a = some u) (hH : H a = some (.frz od u)) : Ext (B.lock a od u).F (B.lock a od u).Ω (B.lock a od u).H F Ω H where
  sub := fun b v e => by
    by_cases z : b = a
    · rw [z] at e ⊢
      have e : upd B.F a u a = some v := e
      rw [upd_same] at e; cases e; exact hF
    · have e : upd B.F a u b = some v := e
      rw [upd_ne z] at e; exact x.sub b v e
  new := fun b e => by
    show F b = upd B.F a u b
    by_cases z : b = a
    · rw [z, upd_same]; exact hF
    · rw [upd_ne z]
      have e : upd B.H a (.frz od u) b ≠ none := e
      rw [upd_ne z] at e; exact x.new b e
  keep := fun b v e w => by
    have e : upd B.H a (.frz od u) b = some v := e
    by_cases z : b = a
    · rw [z, upd_same] at e; rw [z, hH]; exact e
    · rw [upd_ne z] at e; exact x.keep b v e w
  here := fun b e => by
    by_cases z : b = a
    · rw [z, hH]; simp
    · have e : upd B.H a (.frz od u) b ≠ none := e
      rw [upd_ne z] at e; exact x.here b e
  omg := x.omg
  omn := fun b e => by
    by_cases z : b = a
    · rw [z]
      have o1 := om_none x.wd hF
      rw [o1]
      show none = B.Ω a
      cases q : B.Ω a with
      | none => rfl
      | some I => rw [x.omg a I q] at o1; cases o1
    · have e : upd B.H a (.frz od u) b ≠ none := e
      rw [upd_ne z] at e; exact x.omn b e
  wd := x.wd
theorem Ext.unlock2 {B : Bs} {F F' : Hp} {Ω Ω' : Om} {H H' : Hp} (x : Ext B.F B.Ω B.H F Ω H) {a : Addr} {u : HO} {od : Obj} (hF : F a = some u) (hH : H a = some (.frz od u)) (y : Ext (B.lock a od u).F (B.lock a od u).Ω (B.lock a od u).H F' Ω' H') : Ext B.F B.Ω B.H F' Ω' H' := by
  have fa : F' a = some u := y.sub a u (show upd B.F a u a = some u from upd_same)
  have oB : B.Ω a = none := by
    cases q : B.Ω a with
    | none => rfl
    | some I => have := x.omg a I q; rw [om_none x.wd hF] at this; cases this
  have ha : H' a = some (.frz od u) := y.keep a _ (show upd B.H a (.frz od u) a = _ from upd_same) oB
  exact {
    sub := fun b v e => by
      by_cases z : b = a
      · rw [z] at e ⊢
        have := x.sub a v e
        rw [hF] at this; cases this; exact fa
      · exact y.sub b v (by show upd B.F a u b = some v; rw [upd_ne z]; exact e)
    new := fun b e => by
      by_cases z : b = a
      · rw [z] at e ⊢
        rw [fa, ← hF]; exact x.new a e
      · have := y.new b (by show upd B.H a (.frz od u) b ≠ none; rw [upd_ne z]; exact e)
        rw [this]; show upd B.F a u b = B.F b; rw [upd_ne z]
    keep := fun b v e w => by
      by_cases z : b = a
      · rw [z] at e w ⊢
        have := x.keep a v e w
        rw [hH] at this; cases this; exact ha
      · exact y.keep b v (by show upd B.H a (.frz od u) b = some v; rw [upd_ne z]; exact e) w
    here := fun b e => by
      by_cases z : b = a
      · rw [z, ha]; simp
      · exact y.here b (by show upd B.H a (.frz od u) b ≠ none; rw [upd_ne z]; exact e)
    omg := y.omg
    omn := fun b e => by
      by_cases z : b = a
      · rw [z, om_none y.wd fa, oB]
      · exact y.omn b (by show upd B.H a (.frz od u) b ≠ none; rw [upd_ne z]; exact e)
    wd := y.wd }
theorem En.lock2 {B : Bs} {F : Hp} {Ω : Om} {H : Hp} {σ : L2.St} {ρ : List C} (e : En K B F Ω H σ ρ) {a : Addr} {u : HO} {od : Obj} (hF : F a = some u) (hH : H a = some (.frz od u)) : En K (B.lock a od u) F Ω H σ ρ := by
  obtain ⟨As, h1, h2, h3⟩ := e.own
  have na : ∀ i, a ∉ As i := fun i m => by have := (h2 i a m).1; rw [hF] at this; cases this
  refine ⟨e.ex.lock2 hF hH, e.len, As, h1, fun i b m => ?_, h3⟩
  have z : b ≠ a := fun z => na i (by rw [← z]; exact m)
  obtain ⟨a1, a2, a3, a4⟩ := h2 i b m
  refine ⟨a1, a2, a3, ?_⟩
  show upd B.H a (.frz od u) b = none
  rw [upd_ne z]; exact a4
theorem En.unlock2 {B : Bs} {F F' : Hp} {Ω Ω' : Om} {H H' : Hp} {σ' : L2.St} {ρ' : List C} (x : Ext B.F B.Ω B.H F Ω H) {a : Addr} {u : HO} {od : Obj} (hF : F a = some u) (hH : H a = some (.frz od u)) (e : En K (B.lock a od u) F' Ω' H' σ' ρ') : En K B F' Ω' H' σ' ρ' := by
  have y := x.unlock2 hF hH e.ex
  obtain ⟨As, h1, h2, h3⟩ := e.own
  have fa : F' a = some u := e.ex.sub a u (show upd B.F a u a = some u from upd_same)
  have na : ∀ i, a ∉ As i := fun i m => by have := (h2 i a m).1; rw [fa] at this; cases this
  refine ⟨y, e.len, As, h1, fun i b m => ?_, h3⟩
  have z : b ≠ a := fun z => na i (by rw [← z]; exact m)
  obtain ⟨a1, a2, a3, a4⟩ := h2 i b m
  refine ⟨a1, a2, a3, ?_⟩
  have : upd B.H a (.frz od u) b = none := a4
  rw [upd_ne z] at this
  exact this
theorem om_base {B : Bs} {F : Hp} {Ω : Om} {H : Hp} (x : Ext B.F B.Ω B.H F Ω H) {a : Addr} {u : HO} (hF : F a = some u) : B.Ω a = none := by
  cases q : B.Ω a with
  | none => rfl
  | some I => have := x.omg a I q; rw [om_none x.wd hF] at this; cases this
/-- the keys of a frozen dict in a slot -/
def kyT (i : Nat) : TDs := fun ρ G => ∃ ds, ρ[i]? = some (.sh (.dict ds)) ∧ keysP ds ∧ G (ds.map (·.1))
/-- where it stands -/
theorem kyT_at {B : Bs} {F : Hp} {Ω : Om} {H : Hp} {σ : L2.St} {ρ : List C} {i : Nat} {ds : List (D × D)} (e : En K B F Ω H σ ρ) (hc : ρ[i]? = some (.sh (.dict ds))) (hk : keysP ds) :
    ∃ a kvs, σ[i]? = some (some (.ref a)) ∧ F a = some (.dK kvs) ∧ RepK K F kvs ds ∧ (H a = some (.dK kvs) ∨ ∃ od, H a = some (.frz od (.dK kvs))) := by
  obtain ⟨As, h1, h2, h3⟩ := e.own
  obtain ⟨v, hv, r⟩ := h1 i _ hc (by simp)
  obtain ⟨a, kvs, rfl, fa, rd, q⟩ := dic_rd e.wd r hk
  exact ⟨a, kvs, hv, fa, q, rd⟩
theorem walks_keys {B : Bs} {F : Hp} {a : Addr} {od : Obj} {kvs : List (Key × V)} {ds : List (D × D)} (fa : F a = some (.dK kvs)) (q : RepK K F kvs ds) (hB : B.H a = some (.frz od (.dK kvs))) (oB : B.Ω a = none) : Walks K B (Itk a od kvs) F (ds.map (·.1)) where
  stop := fun F' Ω H i g x h => ⟨x.keep a _ hB oB, by
    have := congrArg List.length q.keys
    simp only [List.length_map] at this h ⊢
    omega⟩
  go := fun F' Ω H i g x h => ⟨x.keep a _ hB oB, by
    have := congrArg List.length q.keys
    simp only [List.length_map] at this h ⊢
    omega⟩
  yld := fun F' Ω H i x H1 d g y hd hy => by
    obtain ⟨rfl, k, v, hk, rfl⟩ := hy
    refine ⟨F', Ext.refl y.wd, ?_⟩
    rw [q.keys, List.getElem?_map, List.getElem?_map, hk] at hd
    cases hd
    cases k with
    | inl i => exact .int i
    | inr i => exact .str i
/-- for x in d, d a name -/
theorem vs_forK (i : Nat) {body : List Stmt} {g : VG'} {tb : TR} {S : List Nat} (hv : PE X iter (tVar i)) (hg : VG X tg S g) (hb : VSs X body tb) (hp : PassesOwn (model X.prog X.w) X.A X.env X.xe := by exact PassesOwn.never) (hc : X.calm = true := by rfl) (hs : ∀ x, foldedSetIterable iter X.env x = pure x := by intro _; rfl) :
    VS X (.For tg iter body [] pos) (sFor (kyT i) g tb) := by
  -- while it stands locked
  have main : ∀ (B : Bs) (a : Addr) (od : Obj) (kvs : List (Key × V)) (De : Ends) (σ : L2.St) (H : Hp) (F : Hp) (Ω : Om) (ρ : List C) (d : DD) (ds : List (D × D)), En X.K B F Ω H σ ρ → B.H a = some (.frz od (.dK kvs)) → B.Ω a = none → σ[i]? = some (some (.ref a)) → F a = some (.dK kvs) → RepK X.K F kvs ds →
      (∃ Iv : Nat → List C → Prop, Iv 0 ρ ∧ (∀ i x ρ', (ds.map (·.1))[i]? = some x → Iv i ρ' → g x ρ' fun ρ2 => tb { d with nx := Iv (i + 1), ct := Iv (i + 1), bk := d.nx } ρ2) ∧ ∀ ρ', Iv (ds.map (·.1)).length ρ' → d.nx ρ') → Cont X.K B F d De →
      tFor (iKeys (tVar i)) (upG X.K B S g) (upT X.K B tb) De σ H := by
    intro B a od kvs De σ H F Ω ρ d ds en hB oB hσ fa q ⟨Iv, h0, h1, h2⟩ k
    have wk := walks_keys (K := X.K) fa q hB oB
    refine ⟨.ref a, hσ, a, od, rfl, .inl ⟨kvs, en.ex.keep a _ hB oB, ?_⟩⟩
    refine ⟨fun i m σ' H' => m = (ds.map (·.1)).length - i ∧ i ≤ (ds.map (·.1)).length ∧ ∃ F' Ω' ρ', Gr F F' ∧ En X.K B F' Ω' H' σ' ρ' ∧ Iv i ρ', ⟨(ds.map (·.1)).length, by simp, Nat.zero_le _, F, Ω, ρ, Gr.refl _, en, h0⟩, ?_⟩
    rintro i m σ' H' ⟨rfl, hi, F', Ω', ρ', gr, en', iv⟩
    by_cases hlt : i < (ds.map (·.1)).length
    · refine .inr ⟨wk.go F' Ω' H' i gr en'.ex hlt, fun σ2 H2 => ∃ F2 Ω2 ρ2, Gr F F2 ∧ En X.K B F2 Ω2 H2 σ2 ρ2 ∧ Iv (i + 1) ρ2, fun σ2 H2 q => ⟨(ds.map (·.1)).length - (i + 1), by omega, rfl, hlt, q⟩, fun x H3 hy => ?_⟩
      obtain ⟨F3, x3, r3⟩ := wk.yld F' Ω' H' i x H3 (ds.map (·.1))[i] gr en'.ex (List.getElem?_eq_getElem hlt) hy
      have gr3 := gr.trans x3.sub
      refine ⟨F3, Ω', ρ', (ds.map (·.1))[i], _, en'.ext x3, r3, h1 i (ds.map (·.1))[i] ρ' (List.getElem?_eq_getElem hlt) iv, fun σ4 F4 Ω4 H4 ρ4 gr4 _ en4 g4 => ⟨F4, Ω4, ρ4, _, en4, g4, ?_⟩⟩
      have grx := gr3.trans gr4
      exact ⟨fun σ5 F5 Ω5 H5 ρ5 gr5 en5 g5 => ⟨F5, Ω5, ρ5, (gr3.trans gr4).trans gr5, en5, g5⟩, fun v F5 Ω5 H5 y gr5 => k.rt v F5 Ω5 H5 y (grx.trans gr5), fun σ5 F5 Ω5 H5 ρ5 gr5 en5 g5 => k.nx σ5 F5 Ω5 H5 ρ5 (grx.trans gr5) en5 g5,
        fun σ5 F5 Ω5 H5 ρ5 gr5 en5 g5 => ⟨F5, Ω5, ρ5, (gr3.trans gr4).trans gr5, en5, g5⟩⟩
    · have e : i = (ds.map (·.1)).length := by omega
      subst e
      exact .inl ⟨wk.stop F' Ω' H' _ gr en'.ex (Nat.le_refl _), k.nx σ' F' Ω' H' ρ' gr en' (h2 ρ' iv)⟩
  -- locked here, or before
  refine ⟨fun B => ⟨fun pins s σ H De I h => ?_⟩⟩
  obtain ⟨F, Ω, ρ, d, en, ⟨ds, hc', hk, hI⟩, k⟩ := h
  obtain ⟨a, kvs, hσ, fa, q, st⟩ := kyT_at en hc' hk
  rcases st with hH | ⟨od, hH⟩
  · refine (ps_lock (t := fun De σ H => ∃ (od : Obj), H a = some (.frz od (.dK kvs)) ∧ tFor (iKeys (tVar i)) (upG X.K (B.lock a od (.dK kvs)) S g) (upT X.K (B.lock a od (.dK kvs)) tb) De σ H) ⟨fun pins s σ H De I ⟨od, _, h⟩ => (ps_for hp hc (pi_keys hv) (hg.pg _) (hb.pss _) hs).run pins s σ H De I h⟩).run pins s σ H De I ⟨a, .dK kvs, hH, trivial, fun od => ⟨od, upd_same, ?_⟩⟩
    refine main (B.lock a od (.dK kvs)) a od kvs _ σ _ F Ω ρ d ds (en.lock od rfl fa hH) upd_same ?_ hσ fa q hI ?_
    · exact om_base en.ex fa
    · refine ⟨fun σ' F' Ω' H' ρ' gr e h => ?_, fun v F' Ω' H' x gr e r h => ?_, fun σ' F' Ω' H' ρ' gr e h => ?_, fun σ' F' Ω' H' ρ' gr e h => ?_⟩
      · obtain ⟨h1, h2⟩ := En.unlock en.ex rfl fa hH e
        exact ⟨h1, k.nx σ' F' Ω' _ ρ' gr h2 h⟩
      · obtain ⟨h1, h2⟩ := Ext.unlock en.ex rfl fa hH e
        exact ⟨h1, k.rt v F' Ω' _ x gr h2 r h⟩
      · obtain ⟨h1, h2⟩ := En.unlock en.ex rfl fa hH e
        exact ⟨h1, k.bk σ' F' Ω' _ ρ' gr h2 h⟩
      · obtain ⟨h1, h2⟩ := En.unlock en.ex rfl fa hH e
        exact ⟨h1, k.ct σ' F' Ω' _ ρ' gr h2 h⟩
  · refine (ps_for hp hc (pi_keys hv) (hg.pg (B.lock a od (.dK kvs))) (hb.pss (B.lock a od (.dK kvs))) hs).run pins s σ H De I ?_
    refine main (B.lock a od (.dK kvs)) a od kvs _ σ _ F Ω ρ d ds (en.lock2 fa hH) upd_same (om_base en.ex fa) hσ fa q hI ?_
    exact ⟨fun σ' F' Ω' H' ρ' gr e h => k.nx σ' F' Ω' _ ρ' gr (En.unlock2 en.ex fa hH e) h, fun v F' Ω' H' x gr e r h => k.rt v F' Ω' _ x gr (Ext.unlock2 en.ex fa hH e) r h,
      fun σ' F' Ω' H' ρ' gr e h => k.bk σ' F' Ω' _ ρ' gr (En.unlock2 en.ex fa hH e) h, fun σ' F' Ω' H' ρ' gr e h => k.ct σ' F' Ω' _ ρ' gr (En.unlock2 en.ex fa hH e) h⟩
end
end TL
namespace TL
open PySem PySem.Spec PyProof.Rows L2
section
variable {X : Cx} {a b e o elt iter tg kx vx : Expr} {es ifs : List Expr} {pos pos' : Pos} {K : Fg} {st : Stmt} {t u : TR}
/-! ### comprehensions over a locked dict -/
theorem keysJ {B : Bs} {i : Nat} {σ : L2.St} {H : Hp} {R : It → Hp → Prop} {a : Addr} {od : Obj} {kvs : List (Key × V)} (hσ : σ[i]? = some (some (.ref a))) (hH : H a = some (.frz od (.dK kvs))) (h : upJ K B (kyT i) σ H R) : iKeys (tVar i) σ H R := by
  obtain ⟨F, Ω, ρ, G, en, ⟨ds, hc, hk, g⟩, k⟩ := h
  obtain ⟨a', kvs', hσ', fa, q, st⟩ := kyT_at en hc hk
  rw [hσ] at hσ'
  cases hσ'
  have e : kvs' = kvs := by
    rcases st with h | ⟨od', h⟩
    · rw [hH] at h; cases h
    · rw [hH] at h; cases h; rfl
  subst e
  exact ⟨.ref a, hσ, a, od, rfl, .inl ⟨kvs', hH, k _ _ F Ω H (Ext.refl en.wd) (walks_keys fa q hH (om_none en.wd fa)) g⟩⟩
/-- an expression whose reading walks a frozen dict in a slot, by the reading with its walk under a lock -/
theorem pe_lockK {i : Nat} {te : TC} {t : Bs → TE} {tJ : Bs → TE} (h : ∀ B, PE X e (t B)) (up : ∀ B σ H Q, upC X.K B te σ H Q → tJ B σ H Q) (at_ : ∀ ρ G, te ρ G → ∃ ds, ρ[i]? = some (.sh (.dict ds)) ∧ keysP ds)
    (cv : ∀ B σ H Q a od kvs, σ[i]? = some (some (.ref a)) → H a = some (.frz od (.dK kvs)) → tJ B σ H Q → t B σ H Q) : VC X e te := by
  refine ⟨fun B => ⟨fun pins s σ H Q I hh => ?_⟩⟩
  obtain ⟨F, Ω, ρ, G, en, g, k⟩ := hh
  obtain ⟨ds, hc, hk⟩ := at_ ρ G g
  obtain ⟨a, kvs, hσ, fa, q, st⟩ := kyT_at en hc hk
  rcases st with hH | ⟨od, hH⟩
  · refine (pe_lock (t := fun σ H Q => ∃ od, H a = some (.frz od (.dK kvs)) ∧ t (B.lock a od (.dK kvs)) σ H Q) ⟨fun pins s σ H Q I ⟨od, _, h'⟩ => (h _).run pins s σ H Q I h'⟩).run pins s σ H Q I ⟨a, .dK kvs, hH, trivial, fun od => ⟨od, upd_same, ?_⟩⟩
    refine cv _ σ _ _ a od kvs hσ upd_same (up _ σ _ _ ⟨F, Ω, ρ, G, en.lock od rfl fa hH, g, fun c v F' Ω' H' A x r o f gc => ?_⟩)
    have x' : Ext (Bs.lock ⟨F, Ω, H⟩ a od (.dK kvs)).F (Bs.lock ⟨F, Ω, H⟩ a od (.dK kvs)).Ω (Bs.lock ⟨F, Ω, H⟩ a od (.dK kvs)).H F' Ω' H' := by
      show Ext (L2.upd F a (.dK kvs)) Ω (upd H a (.frz od (.dK kvs))) F' Ω' H'
      rw [upd_eta fa]
      exact x
    obtain ⟨h1, h2⟩ := Ext.unlock (B := ⟨F, Ω, H⟩) (Ext.refl en.wd) rfl fa hH x'
    have fa' : F' a = some (.dK kvs) := x.sub a _ fa
    have na : a ∉ A := fun m => by have := (o a m).1; rw [fa'] at this; cases this
    refine ⟨h1, k c v F' Ω' _ A h2 (r.upd na) o (fun b m => ?_) gc⟩
    have := f b m
    rwa [upd_ne (fun z => na (by rw [← z]; exact m))] at this
  · exact (h B).run pins s σ H Q I (cv B σ H Q a od kvs hσ hH (up B σ H Q ⟨F, Ω, ρ, G, en, g, k⟩))
theorem lockK_core {B : Bs} {te : TC} {F : Hp} {Ω : Om} {H : Hp} {σ : L2.St} {ρ : List C} {G : CK} {Q : VK} {a : Addr} {kvs : List (Key × V)} (od : Obj) (en : En K B F Ω H σ ρ) (g : te ρ G) (k : Fin K F Ω H G Q) (fa : F a = some (.dK kvs)) (hH : H a = some (.dK kvs)) :
    upC K (B.lock a od (.dK kvs)) te σ (L2.upd H a (.frz od (.dK kvs))) fun v H' => H' a = some (.frz od (.dK kvs)) ∧ Q v (L2.upd H' a (.dK kvs)) := by
  refine ⟨F, Ω, ρ, G, en.lock od rfl fa hH, g, fun c v F' Ω' H' A x r o f gc => ?_⟩
  have x' : Ext (Bs.lock ⟨F, Ω, H⟩ a od (.dK kvs)).F (Bs.lock ⟨F, Ω, H⟩ a od (.dK kvs)).Ω (Bs.lock ⟨F, Ω, H⟩ a od (.dK kvs)).H F' Ω' H' := by
    show Ext (L2.upd F a (.dK kvs)) Ω (upd H a (.frz od (.dK kvs))) F' Ω' H'
    rw [upd_eta fa]
    exact x
  obtain ⟨h1, h2⟩ := Ext.unlock (B := ⟨F, Ω, H⟩) (Ext.refl en.wd) rfl fa hH x'
  have fa' : F' a = some (.dK kvs) := x.sub a _ fa
  have na : a ∉ A := fun m => by have := (o a m).1; rw [fa'] at this; cases this
  refine ⟨h1, k c v F' Ω' _ A h2 (r.upd na) o (fun b m => ?_) gc⟩
  have := f b m
  rwa [upd_ne (fun z => na (by rw [← z]; exact m))] at this
theorem vs_setLcK (i : Nat) {n : Nat} {y : Str} {py spos : Pos} {scope : Scope} {own : List (Str × Nat)} {g : VG'} {tt : TB} {te : TC} {S : List Nat} (hN : X.N.Nodup) (hy : X.N[n]? = some y) (hyl : X.env.scope.names.lookup y = some .local)
    (hsw : swapsWith (.ListComp elt [⟨tg, iter, ifs, 0⟩] scope pos) (some (.Name y py)) spos.line X.env = pure true) (hv : PE X iter (tVar i)) (ok : blkC X.N X.env.scope scope own = true)
    (hg : ∀ (s : Shared) (H : Hp) (C : Addr) (cl : List (Str × Addr)) (fp : List Addr), VN (X.blk s H scope (compEnvC scope cl C X.env) fp) tg S g)
    (ht : ∀ (s : Shared) (H : Hp) (C : Addr) (cl : List (Str × Addr)) (fp : List Addr), VTs (X.blk s H scope (compEnvC scope cl C X.env) fp) ifs tt)
    (he : ∀ (s : Shared) (H : Hp) (C : Addr) (cl : List (Str × Addr)) (fp : List Addr), VC (X.blk s H scope (compEnvC scope cl C X.env) fp) elt te)
    (hS : ∀ i ∈ S, i ∈ own.map (·.2) := by decide) (hc : X.calm = true := by rfl) (hs : ∀ x, foldedSetIterable iter X.env x = pure x := by intro _; rfl) :
    VS X (.Assign [.Name y py] (.ListComp elt [⟨tg, iter, ifs, 0⟩] scope pos) spos) (fun d ρ => cLc (kyT i) g tt te (own.map (·.2)) ρ fun c => d.nx (ρ.set n c)) := by
  have pr : ∀ B : Bs, PS X (.Assign [.Name y py] (.ListComp elt [⟨tg, iter, ifs, 0⟩] scope pos) spos) (tAsg (tLc (iKeys (tVar i)) (upN X.K B S g) (upB X.K B tt) (upC X.K B fun ρ G => te ρ fun c => fz c fun d => G (.sh d)) (own.map (·.2))) (gName n)) := fun B => ps_setLc hc hN hy hyl hsw (pi_keys hv) (blkOk_by ok) (fun s H C cl fp => (hg s H C cl fp).pg B) (fun s H C cl fp => (ht s H C cl fp).pts B) (fun s H C cl fp => (he s H C cl fp).vd.vc.pe B) hs
  refine ⟨fun B => ⟨fun pins s σ H De I hh => ?_⟩⟩
  obtain ⟨F, Ω, ρ, d, en, g0, k⟩ := hh
  have fin : Fin X.K F Ω H (fun c => d.nx (ρ.set n c)) (fun v H' => De.nx (σ.set n (some v)) H') := fun c v F' Ω' H' A x r o f gc => k.nx _ F' Ω' H' _ x.sub (en.set x r o f n) gc
  obtain ⟨ds, hc', hk, _⟩ := (show kyT i ρ _ from g0)
  obtain ⟨a, kvs, hσ, fa, q, st⟩ := kyT_at en hc' hk
  rcases st with hH | ⟨od, hH⟩
  · refine (ps_lock (t := fun De σ H => ∃ od, H a = some (.frz od (.dK kvs)) ∧ tAsg (tLc (iKeys (tVar i)) (upN X.K (B.lock a od (.dK kvs)) S g) (upB X.K (B.lock a od (.dK kvs)) tt) (upC X.K (B.lock a od (.dK kvs)) fun ρ G => te ρ fun c => fz c fun d => G (.sh d)) (own.map (·.2))) (gName n) De σ H) ⟨fun pins s σ H De I ⟨od, _, h'⟩ => (pr _).run pins s σ H De I h'⟩).run pins s σ H De I ⟨a, .dK kvs, hH, trivial, fun od => ⟨od, upd_same, ?_⟩⟩
    exact keysJ hσ upd_same (lc_up hS (lockK_core od en g0 fin fa hH))
  · exact (pr B).run pins s σ H De I (keysJ hσ hH (lc_up hS ⟨F, Ω, ρ, _, en, g0, fin⟩))
theorem vc_lcK (i : Nat) {scope : Scope} {own : List (Str × Nat)} {g : VG'} {tt : TB} {te : TC} {S : List Nat} (hv : PE X iter (tVar i)) (hN : X.N.Nodup) (ok : blkC X.N X.env.scope scope own = true)
    (hg : ∀ (s : Shared) (H : Hp) (C : Addr) (cl : List (Str × Addr)) (fp : List Addr), VN (X.blk s H scope (compEnvC scope cl C X.env) fp) tg S g)
    (ht : ∀ (s : Shared) (H : Hp) (C : Addr) (cl : List (Str × Addr)) (fp : List Addr), VTs (X.blk s H scope (compEnvC scope cl C X.env) fp) ifs tt)
    (he : ∀ (s : Shared) (H : Hp) (C : Addr) (cl : List (Str × Addr)) (fp : List Addr), VC (X.blk s H scope (compEnvC scope cl C X.env) fp) elt te)
    (hS : ∀ i ∈ S, i ∈ own.map (·.2) := by decide) (hc : X.calm = true := by rfl) (hs : ∀ x, foldedSetIterable iter X.env x = pure x := by intro _; rfl) :
    VC X (.ListComp elt [⟨tg, iter, ifs, 0⟩] scope pos) (cLc (kyT i) g tt te (own.map (·.2))) :=
  pe_lockK (i := i) (fun B => pe_lc hc hN (pi_keys hv) (blkOk_by ok) (fun s H C cl fp => (hg s H C cl fp).pg B) (fun s H C cl fp => (ht s H C cl fp).pts B) (fun s H C cl fp => (he s H C cl fp).vd.vc.pe B) hs)
    (fun B σ H Q h => lc_up hS h) (fun ρ G ⟨ds, hc, hk, _⟩ => ⟨ds, hc, hk⟩) fun B σ H Q a od kvs hσ hH h => keysJ hσ hH h
/-- what a dict comprehension gathers -/
def dcRun (g : VG') (tt : TB) (tk tv : TC) (ρ : List C) : List D → List (Key × D) → (List (Key × D) → Prop) → Prop
  | [], acc, k => k acc
  | x :: r, acc, k => g x ρ fun ρ1 => tt ρ1 fun b => if b = true then tk ρ1 fun c => kyC c fun key => tv ρ1 fun c2 => fz c2 fun y => dcRun g tt tk tv ρ r (putD acc key y) k else dcRun g tt tk tv ρ r acc k
def cDc (ti : TDs) (g : VG') (tt : TB) (tk tv : TC) (vs : List Nat) : TC := fun ρ G => ti ρ fun ds => ds.length ≤ sizeLine ∧ dcRun g tt tk tv (wipeC ρ vs) ds [] fun kvs => G (.od kvs)
theorem length_putD {κ : Type} [DecidableEq κ] (kvs : List (κ × D)) (k : κ) (d : D) : (putD kvs k d).length ≤ kvs.length + 1 := by
  unfold putD
  split <;> simp
theorem dc_up {B : Bs} {ti : TDs} {g : VG'} {tt : TB} {tk tv : TC} {vs S : List Nat} (hS : ∀ i ∈ S, i ∈ vs) {σ : L2.St} {H : Hp} {Q : VK} (h : upC K B (cDc ti g tt tk tv vs) σ H Q) :
    tDc (upJ K B ti) (upN K B S g) (upB K B tt) (upC K B tk) (upC K B fun ρ G => tv ρ fun c => fz c fun d => G (.sh d)) vs σ H Q := by
  obtain ⟨F, Ω, ρ, G, en, g0, k⟩ := h
  refine ⟨F, Ω, ρ, _, en, g0, fun ds J F1 Ω1 H1 x1 wk ⟨hz, run⟩ D nD => ?_⟩
  have w1 := x1.wd
  have fD : F1 D = none := w1.sub.none nD
  have oD : Ω1 D = none := w1.om_none nD
  refine ⟨fun i m H' => m = ds.length - i ∧ i ≤ ds.length ∧ ∃ F' Ω' acc kvs, Ext F1 Ω1 H1 F' Ω' H' ∧ F' D = none ∧ Ω' D = none ∧ H' D = some (.dK acc) ∧ acc.length ≤ i ∧ RKV K F' acc kvs ∧ dcRun g tt tk tv (wipeC ρ vs) (ds.drop i) kvs fun zs => G (.od zs), ⟨ds.length, by simp, Nat.zero_le _, F1, Ω1, [], [], Ext.laid w1 nD, fD, oD, upd_same, Nat.le_refl _, .nil, by simpa using run⟩, ?_⟩
  rintro i m H' ⟨rfl, hi, F', Ω', acc, kvs, x', f', o', hD, hl, q, run'⟩
  have en' := (en.ext x1).ext x'
  by_cases hlt : i < ds.length
  · refine .inr ⟨wk.go F' Ω' H' i x'.sub x' hlt, fun H3 => ∃ F' Ω' acc kvs, Ext F1 Ω1 H1 F' Ω' H3 ∧ F' D = none ∧ Ω' D = none ∧ H3 D = some (.dK acc) ∧ acc.length ≤ i + 1 ∧ RKV K F' acc kvs ∧ dcRun g tt tk tv (wipeC ρ vs) (ds.drop (i + 1)) kvs fun zs => G (.od zs), fun H3 q3 => ⟨ds.length - (i + 1), by omega, rfl, hlt, q3⟩, fun x H3 hy => ?_⟩
    obtain ⟨F3, x3, r3⟩ := wk.yld F' Ω' H' i x H3 ds[i] x'.sub x' (List.getElem?_eq_getElem hlt) hy
    rw [List.drop_eq_getElem_cons hlt] at run'
    have nz : H' D ≠ none := by rw [hD]; simp
    refine ⟨F3, Ω', wipeC ρ vs, ds[i], _, (en'.ext x3).wipe vs, r3, run', fun σ4 ρ4 ch4 en4 g4 => ⟨wipe_chg ch4 hS, ?_⟩⟩
    refine ⟨F3, Ω', ρ4, _, en4, g4, fun b F5 Ω5 H5 x5 g5 => ?_⟩
    have xx := x'.trans (x3.trans x5)
    have d5 : ∀ {F6 : Hp} {Ω6 : Om} {H6 : Hp}, Ext F' Ω' H' F6 Ω6 H6 → F6 D = none ∧ Ω6 D = none ∧ H6 D = some (.dK acc) := fun x6 => ⟨(x6.new D nz).trans f', (x6.omn D nz).trans o', x6.keep D _ hD o'⟩
    cases b with
    | false =>
      obtain ⟨a1, a2, a3⟩ := d5 (x3.trans x5)
      exact iteF ⟨F5, Ω5, acc, kvs, xx, a1, a2, a3, by omega, q.gr (x3.trans x5).sub, by simpa using g5⟩
    | true =>
      refine iteT ⟨F5, Ω5, ρ4, _, en4.ext x5, by simpa using g5, fun c v F6 Ω6 H6 A6 x6 r6 o6 f6 g6 => ?_⟩
      obtain ⟨key, hkey, g6⟩ := kyC_get g6
      cases keyC_v r6 hkey
      refine ⟨F6, Ω6, ρ4, fun c => ∃ y, c = .sh y ∧ dcRun g tt tk tv (wipeC ρ vs) (ds.drop (i + 1)) (putD kvs key y) fun zs => G (.od zs), (en4.ext x5).ext x6, fz_eq g6, fun c2 v2 F7 Ω7 H7 A7 x7 r7 o7 f7 ⟨y, hy, gy⟩ => ?_⟩
      subst hy
      have xall := (x3.trans x5).trans (x6.trans x7)
      obtain ⟨a1, a2, a3⟩ := d5 xall
      refine ⟨acc, key, rfl, a3, Nat.lt_of_lt_of_le (Nat.lt_of_le_of_lt hl hlt) hz, F7, Ω7, putK acc key v2, putD kvs key y, ?_, a1, a2, upd_same, ?_, (q.gr xall.sub).put key r7.1, gy⟩
      · exact Ext.put (B := ⟨F1, Ω1, H1⟩) (o := .dK (putK acc key v2)) (xx.trans (x6.trans x7)) nD a1 a2
      · have := length_putK acc key v2
        omega
  · have e : i = ds.length := by omega
    subst e
    rw [List.drop_length] at run'
    exact .inl ⟨wk.stop F' Ω' H' _ x'.sub x' (Nat.le_refl _), k (.od kvs) _ F' Ω' H' [D] (x1.trans x') ⟨D, acc, rfl, rfl, hD, q⟩ (fun c m => by rw [List.mem_singleton.mp m]; exact ⟨f', o'⟩) (fun c m => by rw [List.mem_singleton.mp m]; exact x1.free nD) (by simpa [dcRun] using run')⟩
theorem vc_dc {scope : Scope} {own : List (Str × Nat)} {ti : TDs} {g : VG'} {tt : TB} {tk tv : TC} {S : List Nat} (hN : X.N.Nodup) (hi : VJ X tg iter ti) (ok : blkC X.N X.env.scope scope own = true)
    (hg : ∀ (s : Shared) (H : Hp) (C : Addr) (cl : List (Str × Addr)) (fp : List Addr), VN (X.blk s H scope (compEnvC scope cl C X.env) fp) tg S g)
    (ht : ∀ (s : Shared) (H : Hp) (C : Addr) (cl : List (Str × Addr)) (fp : List Addr), VTs (X.blk s H scope (compEnvC scope cl C X.env) fp) ifs tt)
    (hk : ∀ (s : Shared) (H : Hp) (C : Addr) (cl : List (Str × Addr)) (fp : List Addr), VC (X.blk s H scope (compEnvC scope cl C X.env) fp) kx tk)
    (he : ∀ (s : Shared) (H : Hp) (C : Addr) (cl : List (Str × Addr)) (fp : List Addr), VC (X.blk s H scope (compEnvC scope cl C X.env) fp) vx tv)
    (hS : ∀ i ∈ S, i ∈ own.map (·.2) := by decide) (hc : X.calm = true := by rfl) (hs : ∀ x, foldedSetIterable iter X.env x = pure x := by intro _; rfl) :
    VC X (.DictComp kx vx [⟨tg, iter, ifs, 0⟩] scope pos) (cDc ti g tt tk tv (own.map (·.2))) :=
  ⟨fun B => pe_imp (pe_dc hc hN (hi.pi B) (blkOk_by ok) (fun s H C cl fp => (hg s H C cl fp).pg B) (fun s H C cl fp => (ht s H C cl fp).pts B) (fun s H C cl fp => (hk s H C cl fp).pe B) (fun s H C cl fp => (he s H C cl fp).vd.vc.pe B) hs) fun σ H Q h => dc_up hS h⟩
theorem vc_dcK (i : Nat) {scope : Scope} {own : List (Str × Nat)} {g : VG'} {tt : TB} {tk tv : TC} {S : List Nat} (hv : PE X iter (tVar i)) (hN : X.N.Nodup) (ok : blkC X.N X.env.scope scope own = true)
    (hg : ∀ (s : Shared) (H : Hp) (C : Addr) (cl : List (Str × Addr)) (fp : List Addr), VN (X.blk s H scope (compEnvC scope cl C X.env) fp) tg S g)
    (ht : ∀ (s : Shared) (H : Hp) (C : Addr) (cl : List (Str × Addr)) (fp : List Addr), VTs (X.blk s H scope (compEnvC scope cl C X.env) fp) ifs tt)
    (hk : ∀ (s : Shared) (H : Hp) (C : Addr) (cl : List (Str × Addr)) (fp : List Addr), VC (X.blk s H scope (compEnvC scope cl C X.env) fp) kx tk)
    (he : ∀ (s : Shared) (H : Hp) (C : Addr) (cl : List (Str × Addr)) (fp : List Addr), VC (X.blk s H scope (compEnvC scope cl C X.env) fp) vx tv)
    (hS : ∀ i ∈ S, i ∈ own.map (·.2) := by decide) (hc : X.calm = true := by rfl) (hs : ∀ x, foldedSetIterable iter X.env x = pure x := by intro _; rfl) :
    VC X (.DictComp kx vx [⟨tg, iter, ifs, 0⟩] scope pos) (cDc (kyT i) g tt tk tv (own.map (·.2))) :=
  pe_lockK (i := i) (fun B => pe_dc hc hN (pi_keys hv) (blkOk_by ok) (fun s H C cl fp => (hg s H C cl fp).pg B) (fun s H C cl fp => (ht s H C cl fp).pts B) (fun s H C cl fp => (hk s H C cl fp).pe B) (fun s H C cl fp => (he s H C cl fp).vd.vc.pe B) hs)
    (fun B σ H Q h => dc_up hS h) (fun ρ G ⟨ds, hc, hk, _⟩ => ⟨ds, hc, hk⟩) fun B σ H Q a od kvs hσ hH h => keysJ hσ hH h
/-! ### dict(d), len(d), sorted(d) -/
def kvsC (c : C) (kvs : List (Key × D)) : Prop := c = .od kvs ∨ (True ∧ c = .sh (.dict (kvs.map fun p => (kD p.1, p.2))))
theorem kD_inj {a b : Key} (h : kD a = kD b) : a = b := by
  cases a <;> cases b <;> cases h <;> rfl
theorem RepK.rkv {F : Hp} : ∀ {ks : List (Key × V)} {kvs : List (Key × D)}, RepK K F ks (kvs.map fun p => (kD p.1, p.2)) → RKV K F ks kvs
  | [], [], _ => .nil
  | [], _ :: _, h => by cases h
  | _ :: _, [], h => by cases h
  | (k, v) :: ks, (k', d) :: kvs, h => by
    have : ∀ x y, x = (k, v) :: ks → y = (kD k', d) :: kvs.map (fun p => (kD p.1, p.2)) → RepK K F x y → RKV K F ((k, v) :: ks) ((k', d) :: kvs) := by
      intro x y ex ey hh
      cases hh with
      | nil => cases ex
      | cons r t =>
        injection ex with e1 e2
        injection e1 with e3 e4
        injection ey with e5 e6
        injection e5 with e7 e8
        subst e3 e4 e2 e8
        have := kD_inj e7
        subst this
        rw [e6] at t
        exact .cons r (RepK.rkv t)
    exact this _ _ rfl rfl h
theorem kvsC_get {F : Hp} {Ω : Om} {H : Hp} {c : C} {v : V} {A : List Addr} {kvs : List (Key × D)} (w : Wd F Ω H) (r : RC K F Ω H c v A) (h : kvsC c kvs) : ∃ a ks, v = .ref a ∧ Rd H a (.dK ks) ∧ RKV K F ks kvs := by
  rcases h with rfl | ⟨hn, rfl⟩
  · obtain ⟨a, ks, rfl, _, ha, q⟩ := r
    exact ⟨a, ks, rfl, Rd.of ha, q⟩
  · have hk : keysP (kvs.map fun p => (kD p.1, p.2)) := by
      cases kvs with
      | nil => exact .inl rfl
      | cons p r => exact .inr ⟨(kD p.1, p.2), by simp, p.1, rfl⟩
    obtain ⟨a, ks, rfl, _, rd, q⟩ := dic_rd w r hk
    exact ⟨a, ks, rfl, rd, q.rkv⟩
def cDict (c : C) (G : CK) : Prop := ∃ kvs, kvsC c kvs ∧ G (.od kvs)
theorem vc_dictD {p : Pos} {ta : TC} (ha : SE X a ta) (hg : Gl X "dict") (hm : X.mg "dict" = none) (hs : starEach [a] X.env = (false, eval a X.env) :: starEach [] X.env := by rfl) : VC X (.Call (.Name "dict" p) [a] [] pos) (cUn cDict ta) :=
  vc_t1 call_dictD (fun F Ω H c v A G Q w r ⟨kvs, hk, g⟩ k => by
    obtain ⟨a, ks, rfl, rd, q⟩ := kvsC_get w r hk
    exact ⟨a, ks, rfl, rd, fun p n => k.own w n (c := .od kvs) (fun H' h => ⟨p, ks, rfl, rfl, h, q⟩) g⟩) hg hm (by decide +kernel) ha hs
def cLenD (c : C) (G : CK) : Prop := ∃ kvs, kvsC c kvs ∧ G (.sh (.int (kvs.length : Nat)))
theorem cr_lenD : CallR X (.builtin "len") (fun xs H Q => ∃ a kvs, xs = [V.ref a] ∧ Rd H a (.dK kvs) ∧ Q (.int kvs.length) H) := by
  intro pins s σ H xs us Q I r ⟨a, kvs, ex, hd, q⟩
  subst ex
  rw [Vals.ref1 r]
  exact d_len I hd fun t s' I' => ⟨.int kvs.length, H, I', ⟨t, rfl⟩, q⟩
theorem vc_lenD {p : Pos} {ta : TC} (ha : SE X a ta) (hg : Gl X "len") (hm : X.mg "len" = none) (hs : starEach [a] X.env = (false, eval a X.env) :: starEach [] X.env := by rfl) : VC X (.Call (.Name "len" p) [a] [] pos) (cUn cLenD ta) :=
  vc_b1 cr_lenD (fun F Ω H c v A G Q w r ⟨kvs, hk, g⟩ k => by
    obtain ⟨a, ks, rfl, rd, q⟩ := kvsC_get w r hk
    exact ⟨a, ks, rfl, rd, k.sh (Ext.refl w) (.int _) (by rw [q.length]; exact g)⟩) hg hm (by decide +kernel) ha hs
/-! the order of texts -/
def ltS (x y : Str) : Bool := decide (x.cps.toList < y.cps.toList)
def leS (x y : Str) : Bool := !ltS y x
theorem leB_str (x y : Str) : leB (.str x) (.str y) = leS x y := by
  show (!PySem.W.dataLt (.str y) (.str x)) = _
  rw [PySem.W.dataLt_str]
  rfl
def srtS (xs : List Str) : List Str := xs.mergeSort leS
theorem srtD_str (xs : List Str) : srtD (xs.map .str) = (srtS xs).map .str :=
  (List.map_mergeSort (f := PyData.str) fun a _ b _ => (leB_str a b).symm).symm
theorem srtS_perm (xs : List Str) : (srtS xs).Perm xs := List.mergeSort_perm xs _
theorem leS_trans (a b c : Str) (h1 : leS a b = true) (h2 : leS b c = true) : leS a c = true := by
  have t := PySem.W.sortLe_total (PyProof.Rows.listOrd PyProof.Rows.itemOrd) false fun d : D => PySem.W.keyToks d
  have := t.trans (.str a) (.str b) (.str c) (by rw [← leB_str] at h1; exact h1) (by rw [← leB_str] at h2; exact h2)
  rw [← leB_str]
  exact this
theorem leS_total (a b : Str) : (leS a b || leS b a) = true := by
  have t := PySem.W.sortLe_total (PyProof.Rows.listOrd PyProof.Rows.itemOrd) false fun d : D => PySem.W.keyToks d
  have := t.total (.str a) (.str b)
  rw [← leB_str, ← leB_str, Bool.or_eq_true]
  exact this
theorem srtS_sorted (xs : List Str) : (srtS xs).Pairwise fun x y => leS x y = true := List.pairwise_mergeSort leS_trans leS_total xs
theorem leS_antisymm {a b : Str} (h1 : leS a b = true) (h2 : leS b a = true) : a = b := by
  unfold leS ltS at h1 h2
  simp only [Bool.not_eq_true', decide_eq_false_iff_not] at h1 h2
  have e : a.cps.toList = b.cps.toList := List.le_antisymm h1 h2
  exact PySem.W.str_of_cps e
/-- two arrangements in order are one -/
theorem sort_one {xs ys : List Str} (hp : xs.Perm ys) (h1 : xs.Pairwise fun x y => leS x y = true) (h2 : ys.Pairwise fun x y => leS x y = true) : xs = ys :=
  hp.eq_of_pairwise (fun a b _ _ h h' => leS_antisymm h h') h1 h2
theorem risingS_pair : ∀ {xs : List Str} {x : Str}, risingS x xs = true → (∀ y ∈ xs, leS x y = true) ∧ xs.Pairwise fun x y => leS x y = true
  | [], _, _ => ⟨fun _ h => (nomatch h), .nil⟩
  | y :: r, x, h => by
    unfold risingS at h
    rw [Bool.and_eq_true] at h
    obtain ⟨h1, h2⟩ := risingS_pair h.2
    have h0 : leS x y = true := by
      have := h.1
      rw [ltCps_eq] at this
      exact this
    refine ⟨fun z hz => ?_, .cons h1 h2⟩
    rcases List.mem_cons.mp hz with rfl | hz
    · exact h0
    · exact leS_trans _ _ _ h0 (h1 z hz)
theorem sortedS_pair : ∀ {xs : List Str}, sortedS xs = true → xs.Pairwise fun x y => leS x y = true
  | [], _ => .nil
  | x :: r, h => let ⟨h1, h2⟩ := risingS_pair h; .cons h1 h2
def cSortK (c : C) (G : CK) : Prop := ∃ (kvs : List (Key × D)) (ks : List Str), kvsC c kvs ∧ kvs.map (·.1) = ks.map Sum.inr ∧ ks.length < 64 ∧ G (.ol ((srtS ks).map .str))
theorem vc_sortK {p : Pos} {ta : TC} (ha : SE X a ta) (hg : Gl X "sorted") (hm : X.mg "sorted" = none) (hc : X.calm = true := by rfl) (hs : starEach [a] X.env = (false, eval a X.env) :: starEach [] X.env := by rfl) : VC X (.Call (.Name "sorted" p) [a] [] pos) (cUn cSortK ta) :=
  vc_b1 (call_sortedD hc) (fun F Ω H c v A G Q w r ⟨kvs, ks, hk, he, hl, g⟩ k => by
    obtain ⟨a, vs, rfl, rd, q⟩ := kvsC_get w r hk
    refine ⟨a, vs, ks, rfl, rd, q.keys.trans he, hl, fun ys p h1 h2 n => ?_⟩
    have e : ys = srtS ks := sort_one (h1.trans (srtS_perm ks).symm) (sortedS_pair h2) (srtS_sorted ks)
    rw [e]
    exact k.ol w n (reps_strs F _) g) hg hm (by decide +kernel) ha hs
end
end TL
namespace TL
open PySem PySem.Spec PyProof.Rows L2
open PyData (strOk)
/-! ### data without bools and dicts: == is equality -/
mutual
def nb : D → Bool
  | .bool _ => false
  | .dict _ => false
  | .list ds => nbAll ds
  | .tuple ds => nbAll ds
  | _ => true
def nbAll : List D → Bool
  | [] => true
  | d :: ds => nb d && nbAll ds
end
mutual
theorem eqv_nb : ∀ {d e : D}, nb d = true → nb e = true → (PyData.eqv d e = true ↔ d = e)
  | .none, e, _, h => by cases e <;> simp [PyData.eqv] <;> simp [nb] at h
  | .int i, e, _, h => by cases e <;> simp [PyData.eqv] <;> simp [nb] at h
  | .str i, e, _, h => by cases e <;> simp [PyData.eqv] <;> simp [nb] at h
  | .bool b, _, h, _ => by simp [nb] at h
  | .dict b, _, h, _ => by simp [nb] at h
  | .list ds, e, h, h' => by
    cases e with
    | list es =>
      rw [nb] at h h'
      rw [PyData.eqv, eqvAll_nb h h']
      simp
    | bool b => simp [nb] at h'
    | dict b => simp [nb] at h'
    | _ => simp [PyData.eqv]
  | .tuple ds, e, h, h' => by
    cases e with
    | tuple es =>
      rw [nb] at h h'
      rw [PyData.eqv, eqvAll_nb h h']
      simp
    | bool b => simp [nb] at h'
    | dict b => simp [nb] at h'
    | _ => simp [PyData.eqv]
theorem eqvAll_nb : ∀ {ds es : List D}, nbAll ds = true → nbAll es = true → (PyData.eqvAll ds es = true ↔ ds = es)
  | [], [], _, _ => by simp [PyData.eqvAll]
  | [], _ :: _, _, _ => by simp [PyData.eqvAll]
  | _ :: _, [], _, _ => by simp [PyData.eqvAll]
  | d :: ds, e :: es, h, h' => by
    rw [nbAll, Bool.and_eq_true] at h h'
    rw [PyData.eqvAll, Bool.and_eq_true, eqv_nb h.1 h'.1, eqvAll_nb h.2 h'.2]
    simp
end
theorem nbAll_mem : ∀ {ds : List D}, (∀ d ∈ ds, nb d = true) → nbAll ds = true
  | [], _ => rfl
  | d :: ds, h => by rw [nbAll, h d List.mem_cons_self, nbAll_mem fun x m => h x (List.mem_cons_of_mem _ m)]; rfl
theorem nb_refl {d : D} (h : nb d = true) : PyData.eqv d d = true := (eqv_nb h h).mpr rfl
theorem nbAll_of {ds : List D} (h : nbAll ds = true) : ∀ d ∈ ds, nb d = true := by
  induction ds with
  | nil => intro d m; cases m
  | cons x r ih =>
    rw [nbAll, Bool.and_eq_true] at h
    intro d m
    rcases List.mem_cons.mp m with rfl | m
    · exact h.1
    · exact ih h.2 d m
/-- x in ds -/
theorem any_nb {ds : List D} {d : D} (h : nbAll ds = true) (hd : nb d = true) : (ds.any fun z => PyData.eqv z d) = true ↔ d ∈ ds := by
  rw [List.any_eq_true]
  constructor
  · rintro ⟨z, hz, e⟩
    rw [eqv_nb (nbAll_of h z hz) hd] at e
    exact e ▸ hz
  · intro m
    exact ⟨d, m, nb_refl hd⟩
/-- sides of a comparison -/
def Lays (d : D) : Prop := d.canLay0 = true ∧ d.depth ≤ 40
theorem Lays.shaped {d : D} (h : Lays d) : SeqAt.shaped d = true := shaped_of h.1 (Nat.le_trans h.2 (by decide))
/-! ### the order of tuples, texts, ints -/
theorem ltD_int (x y : Int) : ltD (.int x) (.int y) = decide (x < y) := PySem.W.dataLt_int x y
theorem ltD_str (x y : Str) : ltD (.str x) (.str y) = ltS x y := PySem.W.dataLt_str x y
theorem ltD_nil : ltD (.tuple []) (.tuple []) = false := by
  show PySem.W.dataLt _ _ = false
  rw [PySem.W.dataLt_tuple]
  decide +kernel
theorem ltD_cons {x y : D} {xs ys : List D} (h : PySem.W.alike x y = true) : ltD (.tuple (x :: xs)) (.tuple (y :: ys)) = if PyData.eqv x y = true then ltD (.tuple xs) (.tuple ys) else ltD x y := by
  show PySem.W.dataLt _ _ = _
  rw [PySem.W.dataLt_tuple]
  split
  · next e => rw [PySem.W.dataLt_all_yes h e, ltD, PySem.W.dataLt_tuple]
  · next e => rw [PySem.W.dataLt_all_no h (by simpa using e)]
theorem eqv_str (a b : Str) : PyData.eqv (.str a) (.str b) = decide (a = b) := by
  rw [PyData.eqv, Bool.beq_eq_decide_eq]
theorem eqv_int (a b : Int) : PyData.eqv (.int a) (.int b) = decide (a = b) := by
  rw [PyData.eqv, Bool.beq_eq_decide_eq]
theorem ltS_irrefl (a : Str) : ltS a a = false := by simp [ltS]
theorem ltS_of_not {a b : Str} (h : ltS a b = false) (hn : a ≠ b) : ltS b a = true := by
  cases e : ltS b a with
  | true => rfl
  | false => exact absurd (leS_antisymm (a := a) (b := b) (by simp [leS, e]) (by simp [leS, h])) hn
theorem ltS_asymm {a b : Str} (h : ltS a b = true) : ltS b a = false := by
  have := leS_total b a
  simp [leS, h] at this
  exact (by simpa [leS] using this)
theorem ltS_trans {a b c : Str} (h : ltS a b = true) (h' : ltS b c = true) : ltS a c = true := by
  simp only [ltS, decide_eq_true_eq] at *
  exact List.lt_trans h h'
theorem ltS_ne {a b : Str} (h : ltS a b = true) : a ≠ b := fun z => by rw [z, ltS_irrefl] at h; cases h
/-- sorted names, no two alike -/
theorem srtS_strict {xs : List Str} (h : xs.Nodup) : (srtS xs).Pairwise fun a b => ltS a b = true := by
  have h1 := srtS_sorted xs
  have h2 : (srtS xs).Nodup := (srtS_perm xs).nodup_iff.mpr h
  exact (h1.and h2).imp fun {a b} ⟨l, n⟩ => ltS_of_not (by simpa [leS] using l) (Ne.symm n)
/-- one text before another one -/
theorem cCmp_str {fi : Int → Int → Bool} {fd : D → D → Bool} {a b : Str} {G : CK} (ha : strOk a = true) (hb : strOk b = true) (g : G (.sh (.bool (fd (.str a) (.str b))))) : cCmp fi fd (.sh (.str a)) (.sh (.str b)) G :=
  ⟨.str a, .str b, rfl, rfl, ⟨rfl, (fun z => nomatch z), ha, hb, by simp [PyData.depth]⟩, g⟩
theorem cmpOk_str {a b : Str} (ha : strOk a = true) (hb : strOk b = true) : CmpOk (.str a) (.str b) := ⟨rfl, (fun z => nomatch z), ha, hb, by simp [PyData.depth]⟩
/-- == of what is stuck -/
theorem cEqB_sh {f : Bool → Bool} {d e : D} (hd : SeqAt.shaped d = true) (he : SeqAt.shaped e = true) {G : CK} (g : G (.sh (.bool (f (PyData.eqv d e))))) : cEqB f (.sh d) (.sh e) G := by
  unfold cEqB
  split
  · next h1 h2 => cases h1; cases h2; rw [eqv_int] at g; exact g
  · next h1 h2 => cases h1; cases h2; rw [eqv_str] at g; exact g
  · exact ⟨d, e, rfl, rfl, hd, he, g⟩
theorem eq_nmS {f : Bool → Bool} {d e : D} {ρ : List C} {i : Nat} (h : ρ[i]? = some (.sh e)) (hd : SeqAt.shaped d = true) (he : SeqAt.shaped e = true) {G : CK} (g : G (.sh (.bool (f (PyData.eqv d e))))) : nmS i ρ fun y => cEqB f (.sh d) y G := by
  unfold nmS
  rw [h]
  exact cEqB_sh hd he g
/-! ### texts -/
theorem strOk_char {c : Nat} (h : c < 0x110000) : strOk ⟨#[c]⟩ = true := by
  simp [strOk, h]
theorem strOk_ofString (s : String) : strOk (Str.ofString s) = true := by
  rw [Str.ofString_eq_toList]
  unfold strOk
  rw [List.all_toArray, List.all_eq_true]
  intro x hx
  obtain ⟨c, _, rfl⟩ := List.mem_map.mp hx
  have h := c.valid
  have : c.toNat = c.val.toNat := rfl
  rw [decide_eq_true_eq, this]
  simp only [UInt32.isValidChar, Nat.isValidChar] at h
  omega
theorem strOk_append {a b : Str} (ha : strOk a = true) (hb : strOk b = true) : strOk (a ++ b) = true := by
  show (a.cps ++ b.cps).all _ = true
  rw [Array.all_append]
  simp only [strOk] at ha hb
  rw [ha, hb]
  rfl
end TL
namespace TL
open PySem PySem.Spec PyProof.Rows L2
section
variable {X : Cx} {a b e e1 e2 o : Expr} {es : List Expr} {pos pos' apos cpos : Pos} {K : Fg} {st : Stmt} {sts : List Stmt} {t u : TR}
/-! ### xs.index(e) -/
def cIndex (ds : List D) (y : C) (G : CK) : Prop := ∃ d j z, dC y = some d ∧ SeqAt.shaped (.list ds) = true ∧ SeqAt.shaped d = true ∧ ds[j]? = some z ∧ PyData.eqv z d = true ∧ (∀ (m : Nat) (z' : D), m < j → ds[m]? = some z' → PyData.eqv z' d = false) ∧ G (.sh (.int (j : Nat)))
theorem vc_index {to te : TC} (hu : X.A.units + 65 < cLine) (ho : SE X o to) (he : SE X e te) (hbase : attributeBase o "index" X.env (eval o X.env) = eval o X.env := by rfl)
    (h2 : ((backTo cpos (starEach [e] X.env)).all (fun x => !x.fst) && ((backToKw cpos (keywordEach [] X.env)).all fun x => x.fst.isSome) && decide ([e].length + ([] : List Keyword).length + (if ([] : List Keyword).isEmpty = true then 0 else 1) < 30)) = true := by rfl)
    (hl : (apos.endLine == cpos.line) = true := by rfl) (hs : starEach [e] X.env = (false, eval e X.env) :: starEach [] X.env := by rfl) :
    VC X (.Call (.Attribute o "index" apos) [e] [] cpos) (fun ρ G => to ρ fun x => ∃ ds, lsC x = some ds ∧ te ρ fun y => cIndex ds y G) := by
  refine ⟨fun B => pe_imp (pe_bm PySem.F.plainAttrs_list PySem.F.slot_list_index PySem.F.type_list_index (mt_indexD hu) (ho.pe B) (pa_cons (he.pe B) pa_nil hs) hbase h2 hl hs) fun σ H Q h => ?_⟩
  obtain ⟨F, Ω, ρ, G, en, g, k⟩ := h
  refine ⟨F, Ω, ρ, _, en, g, fun c v F1 Ω1 H1 A1 x1 r1 o1 ⟨ds, hc, g1⟩ => ?_⟩
  obtain ⟨a, vs, rfl, ha, q⟩ := lsC_get x1.wd r1 hc
  refine ⟨.inl ⟨rfl, vs, .inl (.inl ha)⟩, F1, Ω1, ρ, _, en.ext x1, g1, fun c2 v2 F2 Ω2 H2 A2 x2 r2 o2 ⟨d, j, z, hd, sl, sd, hz, hzj, hno, g2⟩ => ?_⟩
  have r1' := r1.ext x2 o1
  have hl' : Dp X.K H2 (.ref a) (.list ds) := dC_dp x2.wd r1' (lsC_dC hc) (SeqAt.canLay_of_shaped sl)
  exact ⟨a, v2, d, ds, j, z, rfl, rfl, hl', dC_dp x2.wd r2 hd (SeqAt.canLay_of_shaped sd), sl, sd, hz, hzj, hno, ((k.ext x1).ext x2).sh (Ext.refl x2.wd) (.int _) g2⟩
end
end TL
namespace TL
open PySem PySem.Spec PyProof.Rows L2
section
variable {X : Cx} {a b e : Expr} {es : List Expr} {pos : Pos} {K : Fg}
/-! ### min and max of data -/
theorem lay_of : ∀ {ds : List D} {d : D}, PyData.canLayAll0 ds = true → d ∈ ds → d.canLay0 = true
  | x :: xs, d, h, m => by
    simp only [PyData.canLayAll0, Bool.and_eq_true] at h
    rcases List.mem_cons.mp m with rfl | m
    · exact h.1
    · exact lay_of h.2 m
def sqC2 (c : C) : Option (List D) := match c with
  | .sh (.tuple ds) => some ds
  | c => lsC c
def MmOk (ds : List D) : Prop := PySem.W.AlikeAll ds ∧ PyData.canLayAll0 ds = true ∧ PyData.depthAll ds ≤ 60
theorem reps_get {F : Hp} {xs : List V} {us : List Value} {ds : List D} (rv : Vals xs us) (q : Reps K F xs ds) {i : Nat} {v : Value} (h : us[i]? = some v) : ∃ x d, RelV x v ∧ ds[i]? = some d ∧ Rep K F x d := by
  cases hx : xs[i]? with
  | none => rw [rv.none_of hx] at h; cases h
  | some x =>
    obtain ⟨u, hu, r⟩ := rv.get hx
    rw [hu] at h
    cases h
    obtain ⟨d, hd, rp⟩ := q.get' hx
    exact ⟨x, d, r, hd, rp⟩
theorem fold_mem (f : D → D → Bool) : ∀ (ds : List D) (d : D), ds.foldl (fun a y => if f a y = true then y else a) d ∈ d :: ds
  | [], d => by simp
  | x :: r, d => by
    rw [List.foldl_cons]
    have := fold_mem f r (if f d x = true then x else d)
    rcases List.mem_cons.mp this with e | e
    · rw [e]
      split
      · simp
      · simp
    · exact List.mem_cons_of_mem _ (List.mem_cons_of_mem _ e)
theorem minD_mem (d : D) (ds : List D) : PySem.W.minD d ds ∈ d :: ds := fold_mem (fun a y => PySem.W.dataLt y a) ds d
theorem maxD_mem (d : D) (ds : List D) : PySem.W.maxD d ds ∈ d :: ds := fold_mem (fun a y => PySem.W.dataLt a y) ds d
/-- what min and max ask -/
def rMm (K : Fg) (m : D → List D → D) : List V → Hp → VK → Prop := fun vs H Q => ∃ (F : Hp) (a : Addr) (xs : List V) (d : D) (ds : List D), Sub F H ∧ vs = [V.ref a] ∧ (SqL K H a xs ∨ SqT K H a xs) ∧ Reps K F xs (d :: ds) ∧ MmOk (d :: ds) ∧ ∀ y, Rep K F y (m d ds) → Q y H
theorem mm_out {X : Cx} {pins : List (Addr × Obj)} {σ : L2.St} {H : Hp} {s : Shared} {F : Hp} {xs : List V} {us : List Value} {d m : D} {ds : List D} {Q : VK} (I : Inv X pins σ H s) (sub : Sub F H) (rv : Vals xs us) (q : Reps X.K F xs (d :: ds)) (ok : MmOk (d :: ds)) (hm : m ∈ d :: ds) (hq : ∀ y, Rep X.K F y m → Q y H)
    {i : Nat} {v : Value} {h' : Heap} {tk : Nat} {bs : List Addr} (hi : us[i]? = some v) (hr : Reads h' v m bs) (hk : ∀ b o, s.heap.get? b = some o → h'.get? b = some o) : EP X pins σ Q v { s with heap := h', toks := tk } := by
  obtain ⟨x, e, r, he, rp⟩ := reps_get rv q hi
  have em := List.mem_of_getElem? he
  have lay : e.canLay0 = true := lay_of ok.2.1 em
  obtain ⟨as, hre⟩ := Dp.reads I e x v (rp.dp sub lay) r
  have := PySem.W.alike_unique e m v as bs (ok.1.1 e em m hm) (reads_old hk hre) hr
  subst this
  exact ⟨x, H, I.kept (t' := tk) fun b o hb => hk b o hb, r, hq x rp⟩
theorem cr_minD (hu : X.A.units + 64 < cLine) (hc : X.calm = true) : CallR X (.builtin "min") (rMm X.K PySem.W.minD) := by
  intro pins s σ H vs us Q I r ⟨F, a, xs, d, ds, sub, hv, hs, q, ok, h⟩
  subst hv
  rw [Vals.ref1 r]
  have hd := ok.2.2
  rcases hs with hs | hs
  · obtain ⟨its, rv, hl, hz⟩ := I.list hs
    obtain ⟨as, hr⟩ := Dp.readsAll I (d :: ds) xs its (q.dp sub ok.2.1) rv
    exact PySem.W.min_list_data (I.ok.hd hc) hl.isList hr ok.1 (by omega) fun i v h' tk bs hi hr hk => mm_out I sub rv q ok (minD_mem d ds) h (by simpa using hi) hr hk
  · obtain ⟨its, rv, ht, hz⟩ := I.tuple hs
    obtain ⟨as, hr⟩ := Dp.readsAll I (d :: ds) xs its (q.dp sub ok.2.1) rv
    exact PySem.W.min_tuple_data (I.ok.hd hc) ht hr ok.1 (by omega) fun i v h' tk bs hi hr hk => mm_out I sub rv q ok (minD_mem d ds) h (by simpa using hi) hr hk
theorem cr_maxD (hu : X.A.units + 64 < cLine) (hc : X.calm = true) : CallR X (.builtin "max") (rMm X.K PySem.W.maxD) := by
  intro pins s σ H vs us Q I r ⟨F, a, xs, d, ds, sub, hv, hs, q, ok, h⟩
  subst hv
  rw [Vals.ref1 r]
  have hd := ok.2.2
  rcases hs with hs | hs
  · obtain ⟨its, rv, hl, hz⟩ := I.list hs
    obtain ⟨as, hr⟩ := Dp.readsAll I (d :: ds) xs its (q.dp sub ok.2.1) rv
    exact PySem.W.max_list_data (I.ok.hd hc) hl.isList hr ok.1 (by omega) fun i v h' tk bs hi hr hk => mm_out I sub rv q ok (maxD_mem d ds) h (by simpa using hi) hr hk
  · obtain ⟨its, rv, ht, hz⟩ := I.tuple hs
    obtain ⟨as, hr⟩ := Dp.readsAll I (d :: ds) xs its (q.dp sub ok.2.1) rv
    exact PySem.W.max_tuple_data (I.ok.hd hc) ht hr ok.1 (by omega) fun i v h' tk bs hi hr hk => mm_out I sub rv q ok (maxD_mem d ds) h (by simpa using hi) hr hk
def cMm (m : D → List D → D) (c : C) (G : CK) : Prop := ∃ d ds, sqC2 c = some (d :: ds) ∧ MmOk (d :: ds) ∧ G (.sh (m d ds))
theorem ok_mm (m : D → List D → D) : OkC1 K (rMm K m) (cMm m) := fun F Ω H c v A G Q w r ⟨d, ds, hc, ok, g⟩ k => by
  have fin : ∀ {a : Addr} {vs : List V}, v = .ref a → (SqL K H a vs ∨ SqT K H a vs) → Reps K F vs (d :: ds) → rMm K m [v] H Q := fun {a vs} hv hs q => ⟨F, a, vs, d, ds, w.sub, by rw [hv], hs, q, ok, fun y ry => k.sh (Ext.refl w) ry g⟩
  by_cases ht : ∃ es, c = .sh (.tuple es)
  · obtain ⟨es, rfl⟩ := ht
    cases hc
    obtain ⟨a, vs, rfl, _, hH, q⟩ := tup_get w r
    exact fin rfl (.inr hH) q
  · have hl : lsC c = some (d :: ds) := by
      unfold sqC2 at hc
      split at hc
      · exact absurd ⟨_, rfl⟩ ht
      · exact hc
    obtain ⟨a, vs, rfl, ha, q⟩ := lsC_get w r hl
    exact fin rfl (.inl (.inl (.inl ha))) q
theorem vc_minD {p : Pos} {ta : TC} (hu : X.A.units + 64 < cLine) (ha : SE X a ta) (hg : Gl X "min") (hm : X.mg "min" = none) (hc : X.calm = true := by rfl) (hs : starEach [a] X.env = (false, eval a X.env) :: starEach [] X.env := by rfl) : VC X (.Call (.Name "min" p) [a] [] pos) (cUn (cMm PySem.W.minD) ta) :=
  vc_b1 (cr_minD hu hc) (ok_mm _) hg hm (by decide +kernel) ha hs
theorem vc_maxD {p : Pos} {ta : TC} (hu : X.A.units + 64 < cLine) (ha : SE X a ta) (hg : Gl X "max") (hm : X.mg "max" = none) (hc : X.calm = true := by rfl) (hs : starEach [a] X.env = (false, eval a X.env) :: starEach [] X.env := by rfl) : VC X (.Call (.Name "max" p) [a] [] pos) (cUn (cMm PySem.W.maxD) ta) :=
  vc_b1 (cr_maxD hu hc) (ok_mm _) hg hm (by decide +kernel) ha hs
end
end TL
namespace L2
open PySem PySem.Spec PyProof.Rows
section
variable {P : Program} {w : World} {A : Around} {E : Value → Shared → Prop} {s : Shared}
set_option maxHeartbeats 3200000 in
/-- set(xs) of a list of ints (turned from the case of a tuple) -/
theorem call_set_lstI {l : Addr} {items : Array Value} (ns : List Int) {Q : Value → Shared → Prop} (hh : A.handled = none) (hl : s.heap.IsList l items) (hit : IntsAre items.toList ns) (hb : ns.length + 1 < scanBound)
    (h : ∀ (h' : Heap) (tk c : Nat), SetR w h' s.heap.objs.size (fun j => decide (j ∈ ns)) c → c ≤ ns.length → (∀ b o, s.heap.get? b = some o → h'.get? b = some o) → Q (.ref s.heap.objs.size) { s with heap := h', toks := tk }) :
    wpAny (model P w) A (call (.type "set") [.ref l]) Q E s := by
  have hisz : items.size = ns.length := by
    have q := IntsAre.length hit
    rw [Array.length_toList] at q
    exact q
  obtain ⟨c, tl, hmro⟩ := F.called_set.mro
  have hmade := F.called_set.made
  have hsub := F.called_set.sub
  refine wpAny_call (codeAny_of_tree ?_)
  show wpAny _ _ (callAny (.type "set") _) _ _ _
  refine wpAny_pure ⟨Code.quiet_builtin _ (by decide +kernel), codeAny_builtin F.entry_type_call ?_⟩
  rw [Around.under_plain (weight_type_call_type "set" [.ref l] []) rfl]
  have h1 := F.called_set.notType
  have h2 := F.called_set.canCreate
  have hct := F.typeCall_set_1 (.ref l)
  repeat (any_goals (first | assumption | wp_step))

  refine codeAny_mono (code_set_led1 (.ref l) (E := E) (Q₁ := fun obj s₁ => obj = .ref s.heap.objs.size ∧ s₁ = { s with heap := s.heap.push { cls := .type "set", dict := none, data := .set #[] 0 (.fresh 0 0 (!w.params.followText "set-order")) } }) ⟨rfl, rfl⟩) fun r s₁ hr => ?_
  cases r with
  | error e => exact hr
  | ok fl =>
    cases fl with
    | ret obj =>
      obtain ⟨rfl, rfl⟩ := hr
      have hS : (s.heap.push { cls := .type "set", dict := none, data := .set #[] 0 (.fresh 0 0 (!w.params.followText "set-order")) }).get? s.heap.objs.size = some { cls := .type "set", dict := none, data := .set #[] 0 (.fresh 0 0 (!w.params.followText "set-order")) } := Heap.get?_push_size _ rfl
      have hT : Shared.TypeIs { s with heap := s.heap.push { cls := .type "set", dict := none, data := .set #[] 0 (.fresh 0 0 (!w.params.followText "set-order")) } } (.ref s.heap.objs.size) "set" := ⟨_, hS, rfl⟩
      have hli := F.called_set.init.lookup
      have hbi := F.called_set.init.bind (.ref s.heap.objs.size)
      repeat (any_goals (first | assumption | wp_step))

      refine codeAny_mono (codeAny_call_builtin (R := wants (fun r s₂ => r = .none ∧ ∃ h' tk c, s₂ = { s with heap := h', toks := tk } ∧ SetR w h' s.heap.objs.size (fun j => decide (j ∈ ns)) c ∧ c ≤ ns.length ∧
          (∀ b o, s.heap.get? b = some o → h'.get? b = some o)) E) F.called_set.init.plain F.entry_set_init (check_set_init_1 hT ?_)) fun r₂ s₂ hr₂ => ?_
      · obtain ⟨ol, hol, hcl, nl, hdl⟩ := hl
        obtain ⟨ocls, odict, odata, oslots⟩ := ol
        simp only at hcl hdl
        subst hcl; subst hdl
        have hol' : (s.heap.push { cls := .type "set", dict := none, data := .set #[] 0 (.fresh 0 0 (!w.params.followText "set-order")) }).get? l = some { cls := .type "list", dict := odict, data := .seq items nl, slots := oslots } := Heap.get?_push_of_some _ hol
        have hsls := F.sub_list_set
        have hslf := F.sub_list_frozenset
        have hne : (Value.type "list" == Value.type "dict") = false := by decide
        have hl1 : (s.heap.push { cls := .type "set", dict := none, data := .set #[] 0 (.fresh 0 0 (!w.params.followText "set-order")) }).IsList l items := ⟨_, hol', rfl, nl, rfl⟩
        unfold Builtin.«set.__init__» noKeywords Builtin.Frozenset.updateFrom
        generalize hPI : pyIter = PI
        wp_walk
        subst hPI

        refine wpAny_pyIter_list hl1 ?_
        refine wpAny_bind (wpAny_runValue ?_)
        have hlS : l < s.heap.objs.size := Heap.lt_size hol
        have hh3 : A.in1.in1.in1.handled = none := by simp [hh]
        have hz1 : (s.heap.push { cls := .type "set", dict := none, data := .set #[] 0 (.fresh 0 0 (!w.params.followText "set-order")) }).objs.size = s.heap.objs.size + 1 := Heap.size_push ..
        have hneI : l ≠ (s.heap.push { cls := .type "set", dict := none, data := .set #[] 0 (.fresh 0 0 (!w.params.followText "set-order")) }).objs.size := by
          rw [Heap.size_push]; exact Nat.ne_of_lt (Nat.lt_succ_of_lt hlS)
        have hSf : s.heap.objs.size ∉ [(s.heap.push { cls := .type "set", dict := none, data := .set #[] 0 (.fresh 0 0 (!w.params.followText "set-order")) }).objs.size, l] := by
          rw [Heap.size_push]; simp only [List.mem_cons, List.mem_singleton, List.not_mem_nil, or_false, not_or]
          exact ⟨Nat.ne_of_lt (Nat.lt_succ_self _), Nat.ne_of_gt hlS⟩
        have hval : ∀ (i : Nat) (v : Value), items[i]? = some v → ∃ k t, ns[i]? = some k ∧ v = .int k t := fun i v hv => by
          have hi : i < ns.length := by rw [← hisz]; exact (Array.getElem?_eq_some_iff.mp hv).1
          obtain ⟨t, e⟩ := PyProof.Rows.IntsAre.int_at hit i v (by rw [Array.getElem?_toList]; exact hv)
          refine ⟨ns[i], t, List.getElem?_eq_getElem hi, ?_⟩
          rw [e, List.getD_eq_getElem?_getD, List.getElem?_eq_getElem hi] <;> rfl
        refine set_update_ints ((Walks.list hh3 _ l hneI items).toS) s.heap.objs.size
          hSf ns hisz hb hval (items.size - 0) 0 _ (by omega) (Nat.zero_le _)
          ⟨⟨_, Heap.get?_push_size _ rfl, rfl, rfl⟩, (hl1.push _)⟩ ?hS0 ?hR
        case hS0 =>
          have hget : ((s.heap.push { cls := .type "set", dict := none, data := .set #[] 0 (.fresh 0 0 (!w.params.followText "set-order")) }).push { cls := .type "list_iterator", data := .fields #[.ref l, .int 0 0] }).get? s.heap.objs.size
              = some { cls := .type "set", dict := none, data := .set #[] 0 (.fresh 0 0 (!w.params.followText "set-order")) } := Heap.get?_push_of_some _ hS
          exact ⟨0, Nat.le_refl 0, setR_new_at hget⟩
        case hR =>
          intro s' c' hm hc' hS'
          obtain ⟨h', g2, d', tk', os'⟩ := s'
          have eg : g2 = s.gens := hm.gens
          have ed : d' = s.drawn := hm.drawn
          have eo : os' = s.os := hm.os
          subst eg; subst ed; subst eo
          show wpAny _ _ _ _ _ _
          refine wpAny_pure ?_
          show wpAny _ _ (ret Value.none) _ _ _
          rw [hisz] at hc'
          refine wpAny_pure ⟨rfl, h', tk', c', rfl, hS', hc', fun b o e => ?_⟩
          have hb0 : b < s.heap.objs.size := Heap.lt_size e
          have hb1 : b ≠ s.heap.objs.size := Nat.ne_of_lt hb0
          have hb2 : b ≠ (s.heap.push { cls := .type "set", dict := none, data := .set #[] 0 (.fresh 0 0 (!w.params.followText "set-order")) }).objs.size := by
            rw [Heap.size_push]; exact Nat.ne_of_lt (Nat.lt_succ_of_lt hb0)
          exact hm.heap b o (by simp only [List.mem_cons, List.mem_singleton, List.not_mem_nil, or_false, not_or]; exact ⟨hb1, hb2⟩) (Heap.get?_push_of_some _ (Heap.get?_push_of_some _ e))

      · cases r₂ with
        | error e => exact hr₂
        | ok fl₂ =>
          cases fl₂ with
          | ret r =>
            obtain ⟨rfl, h', tk, c', rfl, hS', hc', hk'⟩ := hr₂
            repeat (any_goals (first | assumption | wp_step))
            exact h _ _ _ hS' hc' hk'
          | _ => exact hr₂.elim
    | _ => exact hr.elim

end
end L2
namespace TL
open PySem PySem.Spec PyProof.Rows L2
section
variable {X : Cx} {a b e o : Expr} {pos pos' : Pos} {K : Fg}
/-! ### sorted(set(xs)) -/
def rSSet (K : Fg) : V → Hp → VK → Prop := fun x H Q => ∃ (l : Addr) (ns : List Int), x = V.ref l ∧ SqL K H l (ns.map V.int) ∧ ns.length < 64 ∧ ∀ (out : List Int) (p : Addr), out.Pairwise (· < ·) → (∀ k, k ∈ out ↔ k ∈ ns) → H p = none → Q (.ref p) (upd H p (.lst (out.map V.int)))
theorem pe_sortSet {ta : TE} {p p2 q pos : Pos} (hc : X.calm = true) (hg : Gl X "sorted") (hm : X.mg "sorted" = none) (hg2 : Gl X "set") (hm2 : X.mg "set" = none) (ha : PE X a ta)
    (na : starEach [a] X.env = (false, eval a X.env) :: starEach [] X.env := by rfl) : PE X (.Call (.Name "sorted" p) [.Call (.Name "set" p2) [a] [] q] [] pos) (tUn (rSSet X.K) ta) := by
  refine ⟨fun pins s σ H Q I h => ?_⟩
  refine Call_ (ld_blt I hg hm PyProof.Rows.boot_sorted ?_)
  refine PyProof.Rows.callWith_builtin1 (PyProof.Rows.args_cons ?_ rfl) rfl rfl
  refine Call_ (ld_blt I hg2 hm2 PyProof.Rows.boot_set ?_)
  refine PyProof.Rows.callWith_type1 (PyProof.Rows.args_cons (thn (ha.run pins s σ H _ I h) fun v s1 ⟨x, H1, I1, r1, q1⟩ => PyProof.Rows.args_nil ?_) na) na rfl
  obtain ⟨l, ns, rfl, hq, h1, q1⟩ := q1
  cases r1
  obtain ⟨its, r, pl, hz⟩ := I1.list hq
  refine call_set_lstI ns (I1.ok.hd hc) pl.isList (by simpa using RZ.intsAre_vals r) (by unfold scanBound; omega) fun h' tk c hS hcl hk => ?_
  refine PyProof.Rows.args_nil ?_
  have I2 : Inv X pins σ H1 { s1 with heap := h', toks := tk } := I1.kept fun b o e => hk b o e
  have hS2 : SetR X.w ({ s1 with heap := h', toks := tk } : Shared).heap s1.heap.objs.size (fun j => decide (j ∈ ns)) c := hS
  revert hS2 I2
  generalize ({ s1 with heap := h', toks := tk } : Shared) = s2
  intro I2 hS2
  refine sorted_set hS2 (I1.ok.hd hc) (by omega) fun s' p out c ns' k g o hp hg hi hs hm hl => ?_
  have hlen : (ns'.map V.int).length ≤ sizeLine := by rw [List.length_map, hl, sizeLine_eq]; omega
  have hn : H1 p = none := I2.hok.fresh hp
  have J : Inv X pins σ (upd H1 p (.lst (ns'.map V.int))) { s2 with heap := s'.heap, gens := s'.gens, drawn := s'.drawn, toks := s'.toks } :=
    I2.call (ch := []) (Un.laid k hp hn) (I2.hok.laid k hp ⟨hlen, out.toList, c, vals_of_ints hi, hg⟩) (by rw [g]; exact I2.bare) (fun _ z => nomatch z)
  have e : s' = { s2 with heap := s'.heap, gens := s'.gens, drawn := s'.drawn, toks := s'.toks } := by
    cases s'
    cases s2
    cases o
    rfl
  rw [e]
  exact ⟨.ref p, _, J, rfl, q1 ns' p hs (fun k => (hm k).trans (by simp)) hn⟩
def cSSet (c : C) (G : CK) : Prop := ∃ ns : List Int, lsC c = some (ns.map .int) ∧ ns.length < 64 ∧ ∀ ns' : List Int, ns'.Pairwise (· < ·) → (∀ k, k ∈ ns' ↔ k ∈ ns) → G (.ol (ns'.map .int))
theorem vc_sortSet {ta : TC} {p p2 q pos : Pos} (ha : SE X a ta) (hg : Gl X "sorted") (hm : X.mg "sorted" = none) (hg2 : Gl X "set") (hm2 : X.mg "set" = none) (hc : X.calm = true := by rfl)
    (na : starEach [a] X.env = (false, eval a X.env) :: starEach [] X.env := by rfl) : VC X (.Call (.Name "sorted" p) [.Call (.Name "set" p2) [a] [] q] [] pos) (cUn cSSet ta) :=
  ⟨fun B => pe_imp (pe_sortSet hc hg hm hg2 hm2 (ha.pe B) na) fun σ H Q h => up_un (r := rSSet X.K) (fun F Ω H c v A G Q w r ⟨ns, hl, h64, h⟩ k => by
    obtain ⟨a, vs, rfl, ea, qa⟩ := lsC_get w r hl
    cases ints_of qa
    exact ⟨a, ns, rfl, .inl (.inl ea), h64, fun ns' p h1 h2 n => k.ol w n (reps_ints F ns') (h ns' h1 h2)⟩) h⟩
/-! ### x[i] = e, x a list of one's own -/
theorem vs_seti (i : Nat) {te tk : TC} {k v : Expr} (hv : PE X o (tVar i)) (hk : SE X k tk) (he : VC X v te) (hs : swapsWithSole [.Subscript o k pos'] v pos.line X.env = pure false := by rfl) (hw : swappedStores [.Subscript o k pos'] v X.env = pure none := by rfl)
    (ha : ∀ u, assign (.Subscript o k pos') X.env u = (do
      let ov ← holding [u] (eval o X.env)
      let iv ← holding [u, ov] (eval k X.env)
      standAt pos'
      holding [u, ov, iv] (setItem ov iv u)
      release [u, ov, iv] []) := by intro _; rfl)
    (h1 : (assignEach [.Subscript o k pos'] X.env).map (·.2) = [assign (.Subscript o k pos') X.env] := by rfl) :
    VS X (.Assign [.Subscript o k pos'] v pos) (fun d ρ => olAt ρ i fun _ => te ρ fun c => fz c fun y => tk ρ fun c2 => inC c2 fun j => olAt ρ i fun ds => ∃ n, ixN ds.length j = some n ∧ d.nx (ρ.set i (.ol (ds.set n y)))) := by
  refine ⟨fun B => ps_imp (ps_asg (he.vd.vc.pe B) (pg_sub hv (hk.pe B) set_list ha) hs hw h1) fun De σ H ⟨F, Ω, ρ, d, en, g, kk⟩ => ?_⟩
  obtain ⟨ds0, hc0, g⟩ := olAt_get g
  refine ⟨F, Ω, ρ, fun c => ∃ y, c = .sh y ∧ tk ρ fun c2 => inC c2 fun j => olAt ρ i fun ds => ∃ n, ixN ds.length j = some n ∧ d.nx (ρ.set i (.ol (ds.set n y))), en, ?_, fun c v F' Ω' H' A x r ow f ⟨y, hy, gy⟩ => ?_⟩
  · have m : (fun c => fz c fun x => ∃ x', C.sh x = .sh x' ∧ tk ρ fun c2 => inC c2 fun j => olAt ρ i fun ds => ∃ n, ixN ds.length j = some n ∧ d.nx (ρ.set i (.ol (ds.set n x')))) = fun c => fz c fun y => tk ρ fun c2 => inC c2 fun j => olAt ρ i fun ds => ∃ n, ixN ds.length j = some n ∧ d.nx (ρ.set i (.ol (ds.set n y))) := by
      funext c
      cases c <;> simp [fz]
    show te ρ fun c => fz c fun x => ∃ x', C.sh x = .sh x' ∧ _
    rw [m]
    exact g
  · subst hy
    have en' := en.ext x
    obtain ⟨a, ks, hσ, ha, q, _⟩ := en'.own1 hc0
    refine ⟨.ref a, hσ, F', Ω', ρ, _, en', gy, fun c2 v2 F2 Ω2 H2 A2 x2 r2 ow2 g2 => ?_⟩
    have hj : ∃ j, c2 = .sh (.int j) ∧ olAt ρ i fun ds => ∃ n, ixN ds.length j = some n ∧ d.nx (ρ.set i (.ol (ds.set n y))) := by
      unfold inC at g2
      split at g2
      · exact ⟨_, rfl, g2⟩
      · exact g2.elim
    obtain ⟨j, rfl, g2⟩ := hj
    obtain ⟨ds, hc', n, hn, g3⟩ := olAt_get g2
    obtain ⟨a', vs', hσ', ha', q', fin⟩ := (en'.ext x2).own1 hc'
    rw [hσ] at hσ'
    cases hσ'
    have ev := r2.1
    cases ev
    exact ⟨a, vs', j, n, rfl, rfl, ha', by rw [q'.length]; exact hn, kk.nx σ F2 Ω2 _ _ (x.sub.trans x2.sub) (fin _ _ (q'.set (r.1.gr x2.sub) n)) g3⟩
end
end TL
namespace TL
open PySem PySem.Spec PyProof.Rows L2
section
variable {X : Cx} {a b e o elt iter tg iter1 tg1 : Expr} {es ifs ifs1 : List Expr} {pos pos' : Pos} {K : Fg}
/-! ### comprehensions of two clauses -/
theorem wipeC_get {ρ : List C} {i : Nat} : ∀ {vs : List Nat}, (wipeC ρ vs)[i]? = if i ∈ vs then (if i < ρ.length then some .un else none) else ρ[i]?
  | [] => by simp [wipeC]
  | v :: vs => by
    have hl : ∀ vs : List Nat, (wipeC ρ vs).length = ρ.length := fun vs => by
      induction vs with
      | nil => rfl
      | cons v vs ih => show ((wipeC ρ vs).set v .un).length = _; rw [List.length_set, ih]
    unfold wipeC
    by_cases hi : v = i
    · subst hi
      rw [if_pos List.mem_cons_self]
      by_cases hl' : v < ρ.length
      · rw [if_pos hl', List.getElem?_set_self (by rw [hl]; exact hl')]
      · rw [if_neg hl', List.getElem?_eq_none]
        rw [List.length_set, hl]
        omega
    · rw [List.getElem?_set_ne hi, wipeC_get]
      by_cases hm : i ∈ vs
      · rw [if_pos hm, if_pos (List.mem_cons_of_mem _ hm)]
      · rw [if_neg hm, if_neg (by simp [hm, Ne.symm hi])]
def isSh : C → Bool
  | .sh _ => true
  | .un => true
  | _ => false
def shAt (ρ : List C) (vs : List Nat) : Bool := vs.all fun j => match ρ[j]? with
  | some c => isSh c
  | none => true
theorem En.again {B : Bs} {F F4 : Hp} {Ω Ω4 : Om} {H H4 : Hp} {σ σ4 : L2.St} {ρ ρ4 : List C} {vs : List Nat} (e0 : En K B F Ω H (L2.wipe σ vs) (wipeC ρ vs)) (e4 : En K B F4 Ω4 H4 σ4 ρ4) (gr : Gr F4 F) (hσ : L2.wipe σ4 vs = L2.wipe σ vs) (hρ : wipeC ρ4 vs = wipeC ρ vs) (sh : shAt ρ4 vs = true) :
    En K B F Ω H σ4 ρ4 := by
  obtain ⟨As, h1, h2, h3⟩ := e0.own
  obtain ⟨As4, k1, k2, k3⟩ := e4.own
  refine ⟨e0.ex, e4.len, fun i => if i ∈ vs then [] else As i, fun i c hc hn => ?_, fun i a m => ?_, fun i j ne a m => ?_⟩
  · show ∃ v, _ ∧ RC K F Ω H c v (if i ∈ vs then [] else As i)
    by_cases hi : i ∈ vs
    · rw [if_pos hi]
      obtain ⟨v, hv, r⟩ := k1 i c hc hn
      have q := List.all_eq_true.mp sh i hi
      rw [hc] at q
      cases c with
      | sh d => exact ⟨v, hv, r.1.gr gr, rfl⟩
      | un => exact absurd rfl hn
      | _ => exact nomatch q
    · rw [if_neg hi]
      have q : (wipeC ρ4 vs)[i]? = ρ4[i]? := by rw [wipeC_get, if_neg hi]
      rw [hρ, hc] at q
      obtain ⟨v, hv, r⟩ := h1 i c q hn
      have q2 : (L2.wipe σ4 vs)[i]? = σ4[i]? := by rw [wipe_get, if_neg hi]
      rw [hσ, hv] at q2
      exact ⟨v, q2.symm, r⟩
  · have m : a ∈ (if i ∈ vs then [] else As i) := m
    by_cases hi : i ∈ vs
    · rw [if_pos hi] at m; cases m
    · rw [if_neg hi] at m; exact h2 i a m
  · have m : a ∈ (if i ∈ vs then [] else As i) := m
    show a ∉ (if j ∈ vs then [] else As j)
    by_cases hi : i ∈ vs
    · rw [if_pos hi] at m; cases m
    · rw [if_neg hi] at m
      by_cases hj : j ∈ vs
      · rw [if_pos hj]; simp
      · rw [if_neg hj]; exact h3 i j ne a m
def lcRun2 (g : VG') (tt : TB) (ti1 : TDs) (g1 : VG') (tt1 : TB) (te : TC) (vs vs1 : List Nat) (ρ : List C) : List D → Nat → (List D → Prop) → Prop
  | [], _, k => k []
  | x :: r, n, k => g x ρ fun ρ1 => tt ρ1 fun b => if b = true then wipeC ρ1 vs = ρ ∧ shAt ρ1 vs = true ∧ ti1 ρ1 fun ds1 => n + ds1.length ≤ sizeLine ∧ lcRun g1 tt1 te (wipeC ρ1 vs1) ds1 fun ys => lcRun2 g tt ti1 g1 tt1 te vs vs1 ρ r (n + ds1.length) fun zs => k (ys ++ zs)
    else lcRun2 g tt ti1 g1 tt1 te vs vs1 ρ r n k
def cLc2 (ti : TDs) (g : VG') (tt : TB) (ti1 : TDs) (g1 : VG') (tt1 : TB) (te : TC) (vs vs1 : List Nat) : TC := fun ρ G => ti ρ fun ds => lcRun2 g tt ti1 g1 tt1 te vs vs1 (wipeC ρ vs) ds 0 fun ys => G (.ol ys)
theorem lc2_up {B : Bs} {ti ti1 : TDs} {g g1 : VG'} {tt tt1 : TB} {te : TC} {vs vs1 S S1 : List Nat} (hS : ∀ i ∈ S, i ∈ vs) (hS1 : ∀ i ∈ S1, i ∈ vs1) {σ : L2.St} {H : Hp} {Q : VK} (h : upC K B (cLc2 ti g tt ti1 g1 tt1 te vs vs1) σ H Q) :
    tLc2 (upJ K B ti) (upN K B S g) (upB K B tt) (upI K B ti1) (upN K B S1 g1) (upB K B tt1) (upC K B fun ρ G => te ρ fun c => fz c fun d => G (.sh d)) vs vs1 σ H Q := by
  obtain ⟨F, Ω, ρ, G, en, g0, k⟩ := h
  refine ⟨F, Ω, ρ, _, en, g0, fun ds J F1 Ω1 H1 x1 wk run D nD => ?_⟩
  have w1 := x1.wd
  have fD : F1 D = none := w1.sub.none nD
  have oD : Ω1 D = none := w1.om_none nD
  refine ⟨fun i m H' => m = ds.length - i ∧ i ≤ ds.length ∧ ∃ F' Ω' acc ys n, Ext F1 Ω1 H1 F' Ω' H' ∧ F' D = none ∧ Ω' D = none ∧ H' D = some (.lst acc) ∧ acc.length ≤ n ∧ Reps K F' acc ys ∧ lcRun2 g tt ti1 g1 tt1 te vs vs1 (wipeC ρ vs) (ds.drop i) n fun zs => G (.ol (ys ++ zs)), ⟨ds.length, by simp, Nat.zero_le _, F1, Ω1, [], [], 0, Ext.laid w1 nD, fD, oD, upd_same, Nat.le_refl _, .nil, by simpa using run⟩, ?_⟩
  rintro i m H' ⟨rfl, hi, F', Ω', acc, ys, n, x', f', o', hD, hl, q, run'⟩
  have en' := (en.ext x1).ext x'
  by_cases hlt : i < ds.length
  · refine .inr ⟨wk.go F' Ω' H' i x'.sub x' hlt, fun H3 => ∃ F' Ω' acc ys n, Ext F1 Ω1 H1 F' Ω' H3 ∧ F' D = none ∧ Ω' D = none ∧ H3 D = some (.lst acc) ∧ acc.length ≤ n ∧ Reps K F' acc ys ∧ lcRun2 g tt ti1 g1 tt1 te vs vs1 (wipeC ρ vs) (ds.drop (i + 1)) n fun zs => G (.ol (ys ++ zs)), fun H3 q3 => ⟨ds.length - (i + 1), by omega, rfl, hlt, q3⟩, fun x H3 hy => ?_⟩
    obtain ⟨F3, x3, r3⟩ := wk.yld F' Ω' H' i x H3 ds[i] x'.sub x' (by simp [hlt]) hy
    rw [List.drop_eq_getElem_cons hlt] at run'
    have nz : H' D ≠ none := by rw [hD]; simp
    refine ⟨F3, Ω', wipeC ρ vs, ds[i], _, (en'.ext x3).wipe vs, r3, run', fun σ4 ρ4 ch4 en4 g4 => ⟨wipe_chg ch4 hS, ?_⟩⟩
    refine ⟨F3, Ω', ρ4, _, en4, g4, fun b F5 Ω5 H5 x5 g5 => ?_⟩
    have xx := x'.trans (x3.trans x5)
    have d5 : ∀ {F6 : Hp} {Ω6 : Om} {H6 : Hp}, Ext F' Ω' H' F6 Ω6 H6 → F6 D = none ∧ Ω6 D = none ∧ H6 D = some (.lst acc) := fun x6 => ⟨(x6.new D nz).trans f', (x6.omn D nz).trans o', x6.keep D _ hD o'⟩
    cases b with
    | false =>
      obtain ⟨a1, a2, a3⟩ := d5 (x3.trans x5)
      exact iteF ⟨F5, Ω5, acc, ys, n, xx, a1, a2, a3, hl, q.gr (x3.trans x5).sub, by simpa using g5⟩
    | true =>
      rw [if_pos rfl] at g5
      obtain ⟨hw5, hsh, g5⟩ := g5
      refine iteT ⟨F5, Ω5, ρ4, _, en4.ext x5, g5, fun ds1 J1 F6 Ω6 H6 x6 wk1 ⟨hz1, run1⟩ => ?_⟩
      obtain ⟨a1, a2, a3⟩ := d5 ((x3.trans x5).trans x6)
      have y6 := (x'.trans (x3.trans x5)).trans x6
      refine ⟨fun j m H7 => m = ds1.length - j ∧ j ≤ ds1.length ∧ ∃ F7 Ω7 acc zs, Gr F6 F7 ∧ Ext F1 Ω1 H1 F7 Ω7 H7 ∧ F7 D = none ∧ Ω7 D = none ∧ H7 D = some (.lst acc) ∧ acc.length ≤ n + j ∧ Reps K F7 acc (ys ++ zs) ∧ lcRun g1 tt1 te (wipeC ρ4 vs1) (ds1.drop j) fun us => lcRun2 g tt ti1 g1 tt1 te vs vs1 (wipeC ρ vs) (ds.drop (i + 1)) (n + ds1.length) fun ws => G (.ol (ys ++ (zs ++ us ++ ws))),
        ⟨ds1.length, by simp, Nat.zero_le _, F6, Ω6, acc, [], Gr.refl _, y6, a1, a2, a3, by omega, by simpa using q.gr ((x3.trans x5).trans x6).sub, by simpa using run1⟩, ?_⟩
      rintro j m H7 ⟨rfl, hj, F7, Ω7, acc7, zs, gr7, x7, f7, o7, hD7, hl7, q7, run7⟩
      have bx7 := (en.ex.trans x1).trans x7
      by_cases hjt : j < ds1.length
      · refine .inr ⟨wk1.go F7 Ω7 H7 j gr7 bx7 hjt, fun H3 => ∃ F7 Ω7 acc zs, Gr F6 F7 ∧ Ext F1 Ω1 H1 F7 Ω7 H3 ∧ F7 D = none ∧ Ω7 D = none ∧ H3 D = some (.lst acc) ∧ acc.length ≤ n + (j + 1) ∧ Reps K F7 acc (ys ++ zs) ∧ lcRun g1 tt1 te (wipeC ρ4 vs1) (ds1.drop (j + 1)) fun us => lcRun2 g tt ti1 g1 tt1 te vs vs1 (wipeC ρ vs) (ds.drop (i + 1)) (n + ds1.length) fun ws => G (.ol (ys ++ (zs ++ us ++ ws))), fun H3 q3 => ⟨ds1.length - (j + 1), by omega, rfl, hjt, q3⟩, fun x H8 hy1 => ?_⟩
        obtain ⟨F8, x8, r8⟩ := wk1.yld F7 Ω7 H7 j x H8 ds1[j] gr7 bx7 (by simp [hjt]) hy1
        rw [List.drop_eq_getElem_cons hjt] at run7
        have nz7 : H7 D ≠ none := by rw [hD7]; simp
        have en8 : En K B F8 Ω7 H8 σ4 ρ4 := En.again ((((en.ext x1).ext x7).ext x8).wipe vs) en4 ((x5.sub.trans x6.sub).trans (gr7.trans x8.sub)) (wipe_chg ch4 hS) hw5 hsh
        refine ⟨F8, Ω7, wipeC ρ4 vs1, ds1[j], _, en8.wipe vs1, r8, run7, fun σ9 ρ9 ch9 en9 g9 => ⟨wipe_chg ch9 hS1, ?_⟩⟩
        refine ⟨F8, Ω7, ρ9, _, en9, g9, fun b F10 Ω10 H10 x10 g10 => ?_⟩
        have xx := x7.trans (x8.trans x10)
        have d10 : ∀ {F6 : Hp} {Ω6 : Om} {H6 : Hp}, Ext F7 Ω7 H7 F6 Ω6 H6 → F6 D = none ∧ Ω6 D = none ∧ H6 D = some (.lst acc7) := fun x6 => ⟨(x6.new D nz7).trans f7, (x6.omn D nz7).trans o7, x6.keep D _ hD7 o7⟩
        cases b with
        | false =>
          obtain ⟨a1, a2, a3⟩ := d10 (x8.trans x10)
          exact iteF ⟨F10, Ω10, acc7, zs, (gr7.trans x8.sub).trans x10.sub, xx, a1, a2, a3, by omega, q7.gr (x8.trans x10).sub, by simpa using g10⟩
        | true =>
          refine iteT ⟨F10, Ω10, ρ9, fun c => ∃ y, c = .sh y ∧ lcRun g1 tt1 te (wipeC ρ4 vs1) (ds1.drop (j + 1)) fun us => lcRun2 g tt ti1 g1 tt1 te vs vs1 (wipeC ρ vs) (ds.drop (i + 1)) (n + ds1.length) fun ws => G (.ol (ys ++ (zs ++ y :: us ++ ws))), en9.ext x10, fz_eq (k := fun y => lcRun g1 tt1 te (wipeC ρ4 vs1) (ds1.drop (j + 1)) fun us => lcRun2 g tt ti1 g1 tt1 te vs vs1 (wipeC ρ vs) (ds.drop (i + 1)) (n + ds1.length) fun ws => G (.ol (ys ++ (zs ++ y :: us ++ ws)))) (by simpa using g10), fun c v F11 Ω11 H11 A11 x11 r11 o11 f11 ⟨y, hy, gy⟩ => ?_⟩
          subst hy
          obtain ⟨a1, a2, a3⟩ := d10 ((x8.trans x10).trans x11)
          refine ⟨acc7, a3, by omega, F11, Ω11, acc7 ++ [v], zs ++ [y], ((gr7.trans x8.sub).trans x10.sub).trans x11.sub, ?_, a1, a2, upd_same, by simp; omega, ?_, ?_⟩
          · have z := Ext.put (B := ⟨F1, Ω1, H1⟩) (o := .lst (acc7 ++ [v])) (xx.trans x11) nD a1 a2
            exact z
          · rw [← List.append_assoc]
            exact (q7.gr ((x8.trans x10).trans x11).sub).append (.cons r11.1 .nil)
          · have m : (fun us => lcRun2 g tt ti1 g1 tt1 te vs vs1 (wipeC ρ vs) (ds.drop (i + 1)) (n + ds1.length) fun ws => G (.ol (ys ++ (zs ++ [y] ++ us ++ ws)))) = fun us => lcRun2 g tt ti1 g1 tt1 te vs vs1 (wipeC ρ vs) (ds.drop (i + 1)) (n + ds1.length) fun ws => G (.ol (ys ++ (zs ++ y :: us ++ ws))) := by
              funext us
              simp [List.append_assoc]
            rw [m]
            exact gy
      · have e : j = ds1.length := by omega
        subst e
        rw [List.drop_length] at run7
        refine .inl ⟨wk1.stop F7 Ω7 H7 _ gr7 bx7 (Nat.le_refl _), F7, Ω7, acc7, ys ++ zs, n + ds1.length, x7, f7, o7, hD7, hl7, q7, ?_⟩
        simpa [lcRun, List.append_assoc] using run7
  · have e : i = ds.length := by omega
    subst e
    rw [List.drop_length] at run'
    refine .inl ⟨wk.stop F' Ω' H' _ x'.sub x' (Nat.le_refl _), k (.ol ys) _ F' Ω' H' [D] (x1.trans x') ⟨D, acc, rfl, rfl, hD, q⟩ (fun c m => by rw [List.mem_singleton.mp m]; exact ⟨f', o'⟩) (fun c m => by rw [List.mem_singleton.mp m]; exact x1.free nD) ?_⟩
    simpa [lcRun2] using run'
theorem vc_lc2 {scope : Scope} {own : List (Str × Nat)} {ti ti1 : TDs} {g g1 : VG'} {tt tt1 : TB} {te : TC} {S S1 : List Nat} (vs1 : List Nat) (hN : X.N.Nodup) (hi : VJ X tg iter ti) (ok : blkC X.N X.env.scope scope own = true)
    (hg : ∀ (s : Shared) (H : Hp) (C : Addr) (cl : List (Str × Addr)) (fp : List Addr), VN (X.blk s H scope (compEnvC scope cl C X.env) fp) tg S g)
    (ht : ∀ (s : Shared) (H : Hp) (C : Addr) (cl : List (Str × Addr)) (fp : List Addr), VTs (X.blk s H scope (compEnvC scope cl C X.env) fp) ifs tt)
    (hi1 : ∀ (s : Shared) (H : Hp) (C : Addr) (cl : List (Str × Addr)) (fp : List Addr), VI (X.blk s H scope (compEnvC scope cl C X.env) fp) tg1 iter1 ti1)
    (hg1 : ∀ (s : Shared) (H : Hp) (C : Addr) (cl : List (Str × Addr)) (fp : List Addr), VN (X.blk s H scope (compEnvC scope cl C X.env) fp) tg1 S1 g1)
    (ht1 : ∀ (s : Shared) (H : Hp) (C : Addr) (cl : List (Str × Addr)) (fp : List Addr), VTs (X.blk s H scope (compEnvC scope cl C X.env) fp) ifs1 tt1)
    (he : ∀ (s : Shared) (H : Hp) (C : Addr) (cl : List (Str × Addr)) (fp : List Addr), VC (X.blk s H scope (compEnvC scope cl C X.env) fp) elt te)
    (hS : ∀ i ∈ S, i ∈ own.map (·.2) := by decide) (hS1 : ∀ i ∈ S1, i ∈ vs1 := by decide) (hv : ∀ i ∈ vs1, i ∈ own.map (·.2) := by decide) (hc : X.calm = true := by rfl) (hs : ∀ x, foldedSetIterable iter X.env x = pure x := by intro _; rfl) (hs1 : ∀ env x, foldedSetIterable iter1 env x = pure x := by intro _ _; rfl) :
    VC X (.ListComp elt [⟨tg, iter, ifs, 0⟩, ⟨tg1, iter1, ifs1, 0⟩] scope pos) (cLc2 ti g tt ti1 g1 tt1 te (own.map (·.2)) vs1) :=
  ⟨fun B => pe_imp (pe_lc2 hc hN (hi.pi B) (blkOk_by ok) hv (fun s H C cl fp => (hg s H C cl fp).pg B) (fun s H C cl fp => (ht s H C cl fp).pts B) (fun s H C cl fp => (hi1 s H C cl fp).pi B) (fun s H C cl fp => (hg1 s H C cl fp).pg B) (fun s H C cl fp => (ht1 s H C cl fp).pts B) (fun s H C cl fp => (he s H C cl fp).vd.vc.pe B) hs hs1) fun σ H Q h => lc2_up hS hS1 h⟩
theorem vs_setLc2 {n : Nat} {y : Str} {py spos : Pos} {scope : Scope} {own : List (Str × Nat)} {ti ti1 : TDs} {g g1 : VG'} {tt tt1 : TB} {te : TC} {S S1 : List Nat} (vs1 : List Nat) (hN : X.N.Nodup) (hy : X.N[n]? = some y) (hyl : X.env.scope.names.lookup y = some .local)
    (hsw : swapsWith (.ListComp elt [⟨tg, iter, ifs, 0⟩, ⟨tg1, iter1, ifs1, 0⟩] scope pos) (some (.Name y py)) spos.line X.env = pure true) (hi : VJ X tg iter ti) (ok : blkC X.N X.env.scope scope own = true)
    (hg : ∀ (s : Shared) (H : Hp) (C : Addr) (cl : List (Str × Addr)) (fp : List Addr), VN (X.blk s H scope (compEnvC scope cl C X.env) fp) tg S g)
    (ht : ∀ (s : Shared) (H : Hp) (C : Addr) (cl : List (Str × Addr)) (fp : List Addr), VTs (X.blk s H scope (compEnvC scope cl C X.env) fp) ifs tt)
    (hi1 : ∀ (s : Shared) (H : Hp) (C : Addr) (cl : List (Str × Addr)) (fp : List Addr), VI (X.blk s H scope (compEnvC scope cl C X.env) fp) tg1 iter1 ti1)
    (hg1 : ∀ (s : Shared) (H : Hp) (C : Addr) (cl : List (Str × Addr)) (fp : List Addr), VN (X.blk s H scope (compEnvC scope cl C X.env) fp) tg1 S1 g1)
    (ht1 : ∀ (s : Shared) (H : Hp) (C : Addr) (cl : List (Str × Addr)) (fp : List Addr), VTs (X.blk s H scope (compEnvC scope cl C X.env) fp) ifs1 tt1)
    (he : ∀ (s : Shared) (H : Hp) (C : Addr) (cl : List (Str × Addr)) (fp : List Addr), VC (X.blk s H scope (compEnvC scope cl C X.env) fp) elt te)
    (hS : ∀ i ∈ S, i ∈ own.map (·.2) := by decide) (hS1 : ∀ i ∈ S1, i ∈ vs1 := by decide) (hv : ∀ i ∈ vs1, i ∈ own.map (·.2) := by decide) (hc : X.calm = true := by rfl) (hs : ∀ x, foldedSetIterable iter X.env x = pure x := by intro _; rfl) (hs1 : ∀ env x, foldedSetIterable iter1 env x = pure x := by intro _ _; rfl) :
    VS X (.Assign [.Name y py] (.ListComp elt [⟨tg, iter, ifs, 0⟩, ⟨tg1, iter1, ifs1, 0⟩] scope pos) spos) (fun d ρ => cLc2 ti g tt ti1 g1 tt1 te (own.map (·.2)) vs1 ρ fun c => d.nx (ρ.set n c)) :=
  ⟨fun B => ps_imp (ps_setLc2 hc hN hy hyl hsw (hi.pi B) (blkOk_by ok) hv (fun s H C cl fp => (hg s H C cl fp).pg B) (fun s H C cl fp => (ht s H C cl fp).pts B) (fun s H C cl fp => (hi1 s H C cl fp).pi B) (fun s H C cl fp => (hg1 s H C cl fp).pg B) (fun s H C cl fp => (ht1 s H C cl fp).pts B) (fun s H C cl fp => (he s H C cl fp).vd.vc.pe B) hs hs1) fun De σ H ⟨F, Ω, ρ, d, en, g0, k⟩ =>
    lc2_up hS hS1 ⟨F, Ω, ρ, _, en, g0, fun c v F' Ω' H' A x r o f gc => k.nx _ F' Ω' H' _ x.sub (en.set x r o f n) gc⟩⟩
end
end TL
namespace TL
open PySem PySem.Spec PyProof.Rows L2
section
variable {X : Cx} {a b e o elt iter tg : Expr} {es ifs : List Expr} {pos pos' apos cpos : Pos} {K : Fg} {st : Stmt} {t u : TR}
/-! ### a nested list of one's own is read as if it were frozen -/
def lndC : C → C
  | .mo _ => .un
  | c => c
def lnd (ρ : List C) (i : Nat) (dss : List (List D)) : List C := (ρ.map lndC).set i (.sh (.list (dss.map .list)))
mutual
def lf : D → Bool
  | .list _ => false
  | .dict _ => false
  | .tuple ds => lfAll ds
  | _ => true
def lfAll : List D → Bool
  | [] => true
  | d :: ds => lf d && lfAll ds
end
theorem lfAll_mem : ∀ {ds : List D}, (∀ d ∈ ds, lf d = true) → lfAll ds = true
  | [], _ => rfl
  | d :: ds, h => by rw [lfAll, h d List.mem_cons_self, lfAll_mem fun x m => h x (List.mem_cons_of_mem _ m)]; rfl
/-- holds no list -/
def clean : C → Prop
  | .sh d => lf d = true
  | .ol ds => lfAll ds = true
  | _ => False
mutual
theorem Rep.less {F F' : Hp} (h : ∀ a vs, F a = some (.tup vs) → F' a = some (.tup vs)) (h2 : ∀ a od vs, F a = some (.frz od (.tup vs)) → F' a = some (.frz od (.tup vs))) : ∀ {v : V} {d : D}, Rep K F v d → lf d = true → Rep K F' v d
  | _, _, .non, _ => .non
  | _, _, .bl b, _ => .bl b
  | _, _, .int i, _ => .int i
  | _, _, .str x, _ => .str x
  | _, _, .lst e r, q => by simp [lf] at q
  | _, _, .tup e r, q => by
    rw [lf] at q
    refine .tup ?_ (Reps.less h h2 r q)
    exact h _ _ e
  | _, _, .dK e r, q => by simp [lf] at q
  | _, _, .dT e _ r, q => by simp [lf] at q
theorem Reps.less {F F' : Hp} (h : ∀ a vs, F a = some (.tup vs) → F' a = some (.tup vs)) (h2 : ∀ a od vs, F a = some (.frz od (.tup vs)) → F' a = some (.frz od (.tup vs))) : ∀ {vs : List V} {ds : List D}, Reps K F vs ds → lfAll ds = true → Reps K F' vs ds
  | _, _, .nil, _ => .nil
  | _, _, .cons r t, q => by
    rw [lfAll, Bool.and_eq_true] at q
    exact .cons (Rep.less h h2 r q.1) (Reps.less h h2 t q.2)
end
def Bs0 : Bs := ⟨fun _ => none, fun _ => none, fun _ => none⟩
theorem En.bare {B : Bs} {F : Hp} {Ω : Om} {H : Hp} {σ : L2.St} {ρ : List C} (e : En K B F Ω H σ ρ) : En K Bs0 F (fun _ => none) H σ (ρ.map lndC) := by
  obtain ⟨As, h1, h2, h3⟩ := e.own
  refine ⟨⟨(fun _ _ z => nomatch z), (fun _ z => absurd rfl z), (fun _ _ z => nomatch z), (fun _ z => absurd rfl z), (fun _ _ z => nomatch z), (fun _ z => absurd rfl z), ⟨e.wd.sub, (fun _ _ z => nomatch z), e.wd.tp⟩⟩, by rw [List.length_map]; exact e.len, As, fun i c hc hn => ?_, fun i a m => ⟨(h2 i a m).1, rfl, (h2 i a m).2.2.1, rfl⟩, h3⟩
  rw [List.getElem?_map] at hc
  cases hq : ρ[i]? with
  | none => rw [hq] at hc; cases hc
  | some c0 =>
    rw [hq] at hc
    have hc : lndC c0 = c := by simpa using hc
    cases c0 with
    | mo I => exact absurd hc.symm hn
    | un => exact absurd hc.symm hn
    | sh d => subst hc; exact h1 i _ hq (by simp)
    | ol d => subst hc; exact h1 i _ hq (by simp)
    | oll d => subst hc; exact h1 i _ hq (by simp)
    | od d => subst hc; exact h1 i _ hq (by simp)
    | odT d => subst hc; exact h1 i _ hq (by simp)
/-- lent out and taken back -/
theorem lend_core {B : Bs} {F : Hp} {Ω : Om} {H : Hp} {σ : L2.St} {ρ : List C} (e : En K B F Ω H σ ρ) {i : Nat} {dss : List (List D)} (hc : ρ[i]? = some (.oll dss)) :
    ∃ F1, En K Bs0 F1 (fun _ => none) H σ (lnd ρ i dss) ∧ ∀ F2 Ω2 H2, Ext F1 (fun _ => none) H F2 Ω2 H2 → ∃ F3, Ext F Ω H F3 Ω H2 ∧ (∀ b, H b = none → F2 b = none → F3 b = none ∧ Ω b = none) ∧ ∀ c v A, RC K F2 Ω2 H2 c v A → clean c → RC K F3 Ω H2 c v A := by
  have e0 := e.bare
  have hc0 : (ρ.map lndC)[i]? = some (.oll dss) := by rw [List.getElem?_map, hc]; rfl
  obtain ⟨v, A, hv, r, ow, fin⟩ := e0.chg (c' := .sh (.list (dss.map .list))) hc0 (by simp)
  obtain ⟨F1, d, gr, w1, rd, hd, off⟩ := freeze (k := fun d => d = .list (dss.map .list)) e0.wd r ow rfl
  subst hd
  have own : ∀ a ∈ A, F a = none ∧ Ω a = none ∧ H a ≠ none ∧ ∃ vs, H a = some (.lst vs) := by
    obtain ⟨As, h1, h2, h3⟩ := e.own
    obtain ⟨v', hv', r'⟩ := h1 i _ hc (by simp)
    rw [hv] at hv'
    cases hv'
    have same : A = As i := by
      obtain ⟨a1, vs1, as1, rfl, rfl, e1, q1, _⟩ := r
      obtain ⟨a2, vs2, as2, e2, h2', e3, q3, _⟩ := r'
      cases e2
      rw [e1] at e3
      cases e3
      rw [h2']
      have uq : ∀ {vs : List V} {dss dss' : List (List D)} {as as' : List Addr}, RLL K F H vs dss as → RLL K F H vs dss' as' → as = as' := by
        intro vs dss dss' as as' q q'
        induction q generalizing dss' as' with
        | nil => cases q'; rfl
        | cons _ _ _ ih =>
          cases q' with
          | cons _ _ t' => rw [ih t']
      rw [uq q1 q3]
    intro a m
    have m' := m
    rw [same] at m'
    refine ⟨(h2 i a m').1, (h2 i a m').2.1, (h2 i a m').2.2.1, ?_⟩
    obtain ⟨a1, vs1, as1, rfl, rfl, e1, q1, _⟩ := r
    rcases List.mem_cons.mp m with rfl | m
    · exact ⟨_, e1⟩
    · have : ∀ {vs : List V} {dss : List (List D)} {as : List Addr}, RLL K F H vs dss as → a ∈ as → ∃ vs, H a = some (.lst vs) := by
        intro vs dss as q
        induction q with
        | nil => intro z; cases z
        | cons e _ _ ih =>
          intro m
          rcases List.mem_cons.mp m with rfl | m
          · exact ⟨_, e⟩
          · exact ih m
      exact this q1 m
  refine ⟨F1, fin F1 _ H [] ⟨(fun _ _ z => nomatch z), (fun _ z => absurd rfl z), (fun _ _ z => nomatch z), (fun _ z => absurd rfl z), (fun _ _ z => nomatch z), (fun _ z => absurd rfl z), w1⟩ gr (fun b hb _ => ⟨off b hb, rfl, fun o h _ => h⟩) (fun _ _ h => h) ⟨rd, rfl⟩ ow_nil (fun _ m => nomatch m), fun F2 Ω2 H2 x => ?_⟩
  have kp : ∀ a o, H a = some o → H2 a = some o := fun a o h => x.keep a o h rfl
  let F3 : Hp := fun a => if a ∈ A then none else F2 a
  have f3n : ∀ a, a ∉ A → F3 a = F2 a := fun a h => if_neg h
  have f3m : ∀ a, a ∈ A → F3 a = none := fun a h => if_pos h
  have gr3 : Gr F F3 := fun a u h => by
    have na : a ∉ A := fun m => by rw [(own a m).1] at h; cases h
    rw [f3n a na]
    exact x.sub a u (gr a u h)
  have new3 : ∀ a, H a ≠ none → F3 a = F a := fun a h => by
    by_cases m : a ∈ A
    · rw [f3m a m, (own a m).1]
    · rw [f3n a m, x.new a h, off a m]
  have w3 : Wd F3 Ω H2 := ⟨fun a u h => by
    have na : a ∉ A := fun m => by rw [f3m a m] at h; cases h
    rw [f3n a na] at h
    exact x.wd.sub a u h, fun a I h => by
    obtain ⟨h1, ⟨o', h2, h3⟩, h4⟩ := e.wd.om a I h
    exact ⟨(new3 a (by rw [h2]; simp)).trans h1, ⟨o', kp a o' h2, h4 F F3 o' gr3 h3⟩, h4⟩, fun a vs h => by
    have na : a ∉ A := fun m => by
      obtain ⟨ws, hw⟩ := (own a m).2.2.2
      have h1 := kp a _ hw
      rw [h1] at h; cases h
    rw [f3n a na]
    exact x.wd.tp a vs h⟩
  refine ⟨F3, ⟨gr3, new3, fun a o h _ => kp a o h, fun a h => ?_, fun _ _ h => h, fun _ _ => rfl, w3⟩, fun b hb f2 => ⟨?_, ?_⟩, fun c v A' r' hcl => ?_⟩
  · cases hh : H a with
    | none => exact absurd hh h
    | some o => rw [kp a o hh]; simp
  · by_cases m : b ∈ A
    · exact f3m b m
    · rw [f3n b m, f2]
  · cases q : Ω b with
    | none => rfl
    | some I =>
      obtain ⟨_, ⟨o', h2, _⟩, _⟩ := e.wd.om b I q
      rw [hb] at h2; cases h2
  · have t1 : ∀ a vs, F2 a = some (.tup vs) → F3 a = some (.tup vs) := fun a vs h => by
      have na : a ∉ A := fun m => by
        obtain ⟨ws, hw⟩ := (own a m).2.2.2
        have h1 := kp a _ hw
        rcases x.wd.sub a _ h with h2 | ⟨_, od, h2⟩
        · rw [h1] at h2; cases h2
        · rw [h1] at h2; cases h2
      rw [f3n a na]; exact h
    have t2 : ∀ a od vs, F2 a = some (.frz od (.tup vs)) → F3 a = some (.frz od (.tup vs)) := fun a od vs h => by
      have na : a ∉ A := fun m => by
        obtain ⟨ws, hw⟩ := (own a m).2.2.2
        have h1 := kp a _ hw
        rcases x.wd.sub a _ h with h2 | ⟨_, od, h2⟩
        · rw [h1] at h2; cases h2
        · rw [h1] at h2; cases h2
      rw [f3n a na]; exact h
    cases c with
    | sh d => exact ⟨Rep.less t1 t2 r'.1 hcl, r'.2⟩
    | ol ds =>
      obtain ⟨p, vs, rfl, rfl, hp, q⟩ := r'
      exact ⟨p, vs, rfl, rfl, hp, Reps.less t1 t2 q hcl⟩
    | _ => exact hcl.elim
def cLend (i : Nat) (te : TC) : TC := fun ρ G => ∃ dss, ρ[i]? = some (.oll dss) ∧ te (lnd ρ i dss) fun c => clean c ∧ G c
theorem vc_lend (i : Nat) {te : TC} (h : VC X e te) : VC X e (cLend i te) := by
  refine ⟨fun B => pe_imp (h.pe Bs0) fun σ H Q ⟨F, Ω, ρ, G, en, ⟨dss, hc, g⟩, k⟩ => ?_⟩
  obtain ⟨F1, en1, back⟩ := lend_core en hc
  refine ⟨F1, _, _, _, en1, g, fun c v F2 Ω2 H2 A x r ow f ⟨hcl, gc⟩ => ?_⟩
  obtain ⟨F3, x3, fr, rc⟩ := back F2 Ω2 H2 x
  exact k c v F3 Ω H2 A x3 (rc c v A r hcl) (fun a m => fr a (f a m) (ow a m).1) f gc
def bLend (i : Nat) (tb : TB) : TB := fun ρ G => ∃ dss, ρ[i]? = some (.oll dss) ∧ tb (lnd ρ i dss) G
theorem vb_lend (i : Nat) {tb : TB} (h : VB X e tb) : VB X e (bLend i tb) := by
  refine ⟨fun B => pt_imp (h.pt Bs0) fun σ H Q ⟨F, Ω, ρ, G, en, ⟨dss, hc, g⟩, k⟩ => ?_⟩
  obtain ⟨F1, en1, back⟩ := lend_core en hc
  refine ⟨F1, _, _, _, en1, g, fun b F2 Ω2 H2 x gc => ?_⟩
  obtain ⟨F3, x3, _, _⟩ := back F2 Ω2 H2 x
  exact k b F3 Ω H2 x3 gc
end
end TL
namespace TL
open PySem PySem.Spec PyProof.Rows L2
section
variable {X : Cx} {a b e o elt iter tg : Expr} {es ifs : List Expr} {pos pos' pos2 apos cpos : Pos} {K : Fg} {st : Stmt} {t u : TR}
/-! ### rows of a nested list of one's own -/
theorem RLL.get {F H : Hp} : ∀ {vs : List V} {dss : List (List D)} {as : List Addr} {n : Nat} {row : List D}, RLL K F H vs dss as → dss[n]? = some row → ∃ p us, vs[n]? = some (.ref p) ∧ as[n]? = some p ∧ H p = some (.lst us) ∧ Reps K F us row
  | _, _, _, _, _, .nil, h => by simp at h
  | _, _, _, 0, _, .cons e r _, h => by simp at h; subst h; exact ⟨_, _, rfl, rfl, e, r⟩
  | _, _, _, n + 1, _, .cons _ _ t, h => by
    obtain ⟨p, us, h1, h2, h3⟩ := t.get (n := n) (by simpa using h)
    exact ⟨p, us, by simpa using h1, by simpa using h2, h3⟩
theorem RLL.put {F H : Hp} : ∀ {vs : List V} {dss : List (List D)} {as : List Addr} {n : Nat} {p : Addr} {us : List V} {row : List D}, RLL K F H vs dss as → as.Nodup → as[n]? = some p → Reps K F us row → RLL K F (upd H p (.lst us)) vs (dss.set n row) as
  | _, _, _, _, _, _, _, .nil, _, h, _ => by simp at h
  | _, _, _, 0, _, _, _, .cons (a := a) e r t, nd, h, q => by
    simp at h
    subst h
    rw [List.nodup_cons] at nd
    exact .cons upd_same q (t.go (Gr.refl _) fun b m o hb => by rw [upd_ne (fun z => nd.1 (by rw [← z]; exact m))]; exact hb)
  | _, _, _, n + 1, p, _, _, .cons (a := a) e r t, nd, h, q => by
    rw [List.nodup_cons] at nd
    have h' : _ := (by simpa using h : _[n]? = some p)
    have hm := List.mem_of_getElem? h'
    exact .cons (by rw [upd_ne (fun z => nd.1 (by rw [z]; exact hm))]; exact e) r (t.put nd.2 h' q)
theorem RLL.append {F H : Hp} : ∀ {vs us : List V} {dss ess : List (List D)} {as bs : List Addr}, RLL K F H vs dss as → RLL K F H us ess bs → RLL K F H (vs ++ us) (dss ++ ess) (as ++ bs)
  | _, _, _, _, _, _, .nil, q => q
  | _, _, _, _, _, _, .cons e r t, q => .cons e r (t.append q)
def ollAt (ρ : List C) (i : Nat) (G : List (List D) → Prop) : Prop := match ρ[i]? with
  | some (.oll ds) => G ds
  | _ => False
theorem ollAt_get {ρ : List C} {i : Nat} {G : List (List D) → Prop} (h : ollAt ρ i G) : ∃ ds, ρ[i]? = some (.oll ds) ∧ G ds := by
  unfold ollAt at h
  split at h
  · exact ⟨_, by assumption, h⟩
  · exact h.elim
/-- where the rows stand, and what writing at one brings -/
theorem En.own2 {B : Bs} {F : Hp} {Ω : Om} {H : Hp} {σ : L2.St} {ρ : List C} (e : En K B F Ω H σ ρ) {i : Nat} {dss : List (List D)} (hc : ρ[i]? = some (.oll dss)) :
    ∃ a vs, σ[i]? = some (some (.ref a)) ∧ H a = some (.lst vs) ∧ Ω a = none ∧ vs.length = dss.length ∧ (∀ n row, dss[n]? = some row → ∃ p us, vs[n]? = some (.ref p) ∧ H p = some (.lst us) ∧ Reps K F us row ∧
      ∀ us' row', Reps K F us' row' → En K B F Ω (upd H p (.lst us')) σ (ρ.set i (.oll (dss.set n row')))) := by
  obtain ⟨As, h1, h2, h3⟩ := e.own
  obtain ⟨v0, hv0, r0⟩ := h1 i _ hc (by simp)
  obtain ⟨a, vs, as, rfl, hA, ha, q, nd⟩ := r0
  have ia0 := h2 i a (by rw [hA]; exact List.mem_cons_self)
  refine ⟨a, vs, hv0, ha, ia0.2.1, q.length, fun n row hrow => ?_⟩
  obtain ⟨p, us, hp1, hp2, hp3, hp4⟩ := q.get hrow
  have pm : p ∈ as := List.mem_of_getElem? hp2
  have ia := h2 i p (by rw [hA]; exact List.mem_cons_of_mem _ pm)
  have pa : p ≠ a := fun z => by rw [List.nodup_cons] at nd; exact nd.1 (z ▸ pm)
  refine ⟨p, us, hp1, hp3, hp4, fun us' row' r' => ?_⟩
  obtain ⟨v2, A2, hv2, r2, ow2, fin2⟩ := e.chg hc (c' := .oll (dss.set n row')) (by simp)
  rw [hv0] at hv2
  cases hv2
  obtain ⟨a2, vs2, as2, e2, hA2, ha2, q2, nd2⟩ := r2
  cases e2
  rw [ha] at ha2
  cases ha2
  have uq : ∀ {vs : List V} {dss dss' : List (List D)} {as as' : List Addr}, RLL K F H vs dss as → RLL K F H vs dss' as' → as = as' := by
    intro vs dss dss' as as' q q'
    induction q generalizing dss' as' with
    | nil => cases q'; rfl
    | cons _ _ _ ih =>
      cases q' with
      | cons _ _ t' => rw [ih t']
  have has := uq q q2
  subst has
  refine fin2 F Ω _ (a :: as) (e.ex.put ia.2.2.2 ia.1 ia.2.1) (Gr.refl _) (fun b hb hh => ⟨rfl, rfl, fun o h _ => ?_⟩) (fun _ _ h => h) ⟨a, vs, as, rfl, rfl, by rw [upd_ne (Ne.symm pa)]; exact ha, q.put (List.nodup_cons.mp nd).2 hp2 r', nd⟩ (fun c m => ⟨(h2 i c (by rw [hA]; exact m)).1, (h2 i c (by rw [hA]; exact m)).2.1⟩) (fun c m => .inl (by rw [hA2]; exact m))
  rw [upd_ne (fun z => hb (by rw [hA2, z]; exact List.mem_cons_of_mem _ pm))]
  exact h
/-- .. the same later on -/
theorem En.own2x {B : Bs} {F F' : Hp} {Ω Ω' : Om} {H H' : Hp} {σ : L2.St} {ρ : List C} (e : En K B F Ω H σ ρ) (x : Ext F Ω H F' Ω' H') {i : Nat} {dss : List (List D)} (hc : ρ[i]? = some (.oll dss)) {a : Addr} {vs : List V} (hσ : σ[i]? = some (some (.ref a))) (ha : H a = some (.lst vs)) {n : Nat} {row : List D} {p : Addr} (hr : dss[n]? = some row) (hp : vs[n]? = some (.ref p)) :
    ∃ us, H' p = some (.lst us) ∧ Reps K F' us row ∧ ∀ us' row', Reps K F' us' row' → En K B F' Ω' (upd H' p (.lst us')) σ (ρ.set i (.oll (dss.set n row'))) := by
  obtain ⟨a0, vs0, hσ0, ha0, oa, _, _⟩ := e.own2 hc
  rw [hσ] at hσ0
  cases hσ0
  obtain ⟨a1, vs1, hσ1, ha1, _, _, rows⟩ := (e.ext x).own2 hc
  rw [hσ] at hσ1
  cases hσ1
  have := x.keep _ _ ha oa
  rw [ha1] at this
  cases this
  obtain ⟨p', us, h1, h2, h3, h4⟩ := rows n row hr
  rw [hp] at h1
  cases h1
  exact ⟨us, h2, h3, h4⟩
theorem inC_get {c : C} {G : Int → Prop} (h : inC c G) : ∃ j, c = .sh (.int j) ∧ G j := by
  unfold inC at h
  split at h
  · exact ⟨_, rfl, h⟩
  · exact h.elim
/-- a row's address is read: x[k] -/
theorem row_pe {B : Bs} {i : Nat} {tk : TC} {F : Hp} {Ω : Om} {H : Hp} {σ : L2.St} {ρ : List C} {Q : VK} {dss : List (List D)} {R : Nat → List D → Prop} (en : En X.K B F Ω H σ ρ) (hc : ρ[i]? = some (.oll dss))
    (g : tk ρ fun c2 => inC c2 fun j => ∃ n row, ixN dss.length j = some n ∧ dss[n]? = some row ∧ R n row)
    (k : ∀ (a : Addr) (vs : List V) (n : Nat) (row : List D) (p : Addr) F1 Ω1 H1, Ext F Ω H F1 Ω1 H1 → σ[i]? = some (some (.ref a)) → H1 a = some (.lst vs) → dss[n]? = some row → vs[n]? = some (.ref p) → R n row → (∃ us, H1 p = some (.lst us)) → Q (.ref p) H1) :
    tOp (rIxL X.K) (tVar i) (upS X.K B tk) σ H Q := by
  obtain ⟨a, vs, hσ, ha, _, _, _⟩ := en.own2 hc
  refine ⟨.ref a, hσ, F, Ω, ρ, _, en, g, fun c2 v2 F1 Ω1 H1 A1 x1 r1 o1 g1 => ?_⟩
  obtain ⟨j, rfl, n, row, hn, hrow, hR⟩ := inC_get g1
  have ev := r1.1
  cases ev
  obtain ⟨a', vs', hσ', ha', oa, hl, rows⟩ := (en.ext x1).own2 hc
  rw [hσ] at hσ'
  cases hσ'
  obtain ⟨p, us, h1, h2, h3, _⟩ := rows n row hrow
  refine ⟨a, vs', j, .ref p, rfl, rfl, .inl (.inl ha'), ?_, k a vs' n row p F1 Ω1 H1 x1 hσ ha' hrow h1 hR ⟨us, h2⟩⟩
  unfold atI
  rw [hl, hn]
  exact h1
/-- x[k].append(e) -/
theorem vs_rowApp (i : Nat) {te tk : TC} {k : Expr} (hv : PE X o (tVar i)) (hk : SE X k tk) (he : VC X e te) (hpl : PlainIx k := by exact fun _ _ => rfl) (hbase : attributeBase (.Subscript o k pos') "append" X.env (eval (.Subscript o k pos') X.env) = eval (.Subscript o k pos') X.env := by rfl)
    (h2 : ((backTo cpos (starEach [e] X.env)).all (fun x => !x.fst) && ((backToKw cpos (keywordEach [] X.env)).all fun x => x.fst.isSome) && decide ([e].length + ([] : List Keyword).length + (if ([] : List Keyword).isEmpty = true then 0 else 1) < 30)) = true := by rfl)
    (hl : (apos.endLine == cpos.line) = true := by rfl) (hs : starEach [e] X.env = (false, eval e X.env) :: starEach [] X.env := by rfl) (hx : swapsWith (.Call (.Attribute (.Subscript o k pos') "append" apos) [e] [] cpos) none pos.line X.env = pure false := by rfl) :
    VS X (.Expr (.Call (.Attribute (.Subscript o k pos') "append" apos) [e] [] cpos) pos) (fun d ρ => ollAt ρ i fun dss => tk ρ fun c2 => inC c2 fun j => ∃ n row, ixN dss.length j = some n ∧ dss[n]? = some row ∧ te ρ fun c => fz c fun y => row.length < sizeLine ∧ d.nx (ρ.set i (.oll (dss.set n (row ++ [y]))))) := by
  refine ⟨fun B => ps_imp (ps_expr (pe_bm PySem.F.plainAttrs_list PySem.F.slot_list_append PySem.F.type_list_append mt_append (pe_ix ix_list hv (hk.pe B) hpl) (pa_cons (he.vd.vc.pe B) pa_nil hs) hbase h2 hl hs) hx) fun De σ H ⟨F, Ω, ρ, d, en, g, k⟩ => ?_⟩
  obtain ⟨dss, hc, g⟩ := ollAt_get g
  refine row_pe (X := X) en hc g fun a vs n row p F1 Ω1 H1 x1 hσ ha hrow hp hR ⟨us, hus⟩ => ?_
  have en1 := en.ext x1
  refine ⟨.inl ⟨rfl, us, .inl (.inl hus)⟩, F1, Ω1, ρ, fun c => ∃ y, c = .sh y ∧ row.length < sizeLine ∧ d.nx (ρ.set i (.oll (dss.set n (row ++ [y])))), en1, ?_, fun c v F' Ω' H' A x r ow f ⟨y, hy, hlen, gy⟩ => ?_⟩
  · have m : (fun c => fz c fun x => ∃ x', C.sh x = .sh x' ∧ row.length < sizeLine ∧ d.nx (ρ.set i (.oll (dss.set n (row ++ [x']))))) = fun c => fz c fun y => row.length < sizeLine ∧ d.nx (ρ.set i (.oll (dss.set n (row ++ [y])))) := by
      funext c
      cases c <;> simp [fz]
    show te ρ fun c => fz c fun x => ∃ x', C.sh x = .sh x' ∧ _
    rw [m]
    exact hR
  · subst hy
    obtain ⟨us', h1, q, fin⟩ := en1.own2x x hc hσ ha hrow hp
    exact ⟨p, us', v, rfl, rfl, h1, by rw [q.length]; exact hlen, k.nx σ F' Ω' _ _ (x1.sub.trans x.sub) (fin (us' ++ [v]) (row ++ [y]) (q.append (.cons r.1 .nil))) gy⟩
theorem reps_dropLast {F : Hp} : ∀ {vs : List V} {ds : List D}, Reps K F vs ds → Reps K F vs.dropLast ds.dropLast
  | _, _, .nil => .nil
  | _, _, .cons _ .nil => .nil
  | _, _, .cons r (.cons r2 t) => .cons r (reps_dropLast (.cons r2 t))
theorem reps_at {F : Hp} : ∀ {vs : List V} {ds : List D} {n : Nat} {y : D}, Reps K F vs ds → ds[n]? = some y → ∃ v, vs[n]? = some v ∧ Rep K F v y
  | _, _, _, _, .nil, h => by simp at h
  | _, _, 0, _, .cons r _, h => by simp at h; subst h; exact ⟨_, rfl, r⟩
  | _, _, n + 1, _, .cons _ t, h => by
    obtain ⟨v, h1, h2⟩ := reps_at (n := n) t (by simpa using h)
    exact ⟨v, by simpa using h1, h2⟩
/-- x[k].pop() -/
theorem pop_core {B : Bs} {i : Nat} {tk : TC} {σ : L2.St} {H : Hp} {Q : VK} {R : D → List C → Prop} {F : Hp} {Ω : Om} {ρ : List C} (en : En X.K B F Ω H σ ρ) (g : ollAt ρ i fun dss => tk ρ fun c2 => inC c2 fun j => ∃ n row, ixN dss.length j = some n ∧ dss[n]? = some row ∧ ∃ y, row[row.length - 1]? = some y ∧ R y (ρ.set i (.oll (dss.set n row.dropLast))))
    (k : ∀ y v F' Ω' H' ρ', Gr F F' → En X.K B F' Ω' H' σ ρ' → Rep X.K F' v y → R y ρ' → Q v H') : tBM0 X.K "list" rPop (tOp (rIxL X.K) (tVar i) (upS X.K B tk)) σ H Q := by
  obtain ⟨dss, hc, g⟩ := ollAt_get g
  refine row_pe (X := X) en hc g fun a vs n row p F1 Ω1 H1 x1 hσ ha hrow hp ⟨y, hy, hR⟩ ⟨us, hus⟩ => ?_
  have en1 := en.ext x1
  obtain ⟨us', h1, q, fin⟩ := en1.own2x (Ext.refl en1.wd) hc hσ ha hrow hp
  obtain ⟨v, hv, rv⟩ := reps_at q hy
  exact ⟨.inl ⟨rfl, us, .inl (.inl hus)⟩, p, us', v, rfl, rfl, h1, by rw [q.length]; exact hv, k y v F1 Ω1 _ _ x1.sub (fin us'.dropLast row.dropLast (reps_dropLast q)) rv hR⟩
theorem vs_rowPop (i : Nat) {tk : TC} {k : Expr} (hv : PE X o (tVar i)) (hk : SE X k tk) (hpl : PlainIx k := by exact fun _ _ => rfl) (hbase : attributeBase (.Subscript o k pos') "pop" X.env (eval (.Subscript o k pos') X.env) = eval (.Subscript o k pos') X.env := by rfl)
    (hl : (apos.endLine == cpos.line) = true := by rfl) (hx : swapsWith (.Call (.Attribute (.Subscript o k pos') "pop" apos) [] [] cpos) none pos.line X.env = pure false := by rfl) :
    VS X (.Expr (.Call (.Attribute (.Subscript o k pos') "pop" apos) [] [] cpos) pos) (fun d ρ => ollAt ρ i fun dss => tk ρ fun c2 => inC c2 fun j => ∃ n row, ixN dss.length j = some n ∧ dss[n]? = some row ∧ ∃ y, row[row.length - 1]? = some y ∧ d.nx (ρ.set i (.oll (dss.set n row.dropLast)))) := by
  refine ⟨fun B => ps_imp (ps_expr (pe_bm0 PySem.F.plainAttrs_list PySem.F.slot_list_pop PySem.F.type_list_pop mt_pop (pe_ix ix_list hv (hk.pe B) hpl) hbase hl) hx) fun De σ H ⟨F, Ω, ρ, d, en, g, k⟩ => ?_⟩
  exact pop_core (X := X) (R := fun _ ρ' => d.nx ρ') en g fun y v F' Ω' H' ρ' gr en' _ h => k.nx σ F' Ω' H' ρ' gr en' h
theorem vs_setRowPop (i : Nat) {n : Nat} {x : Str} {tk : TC} {k : Expr} (hN : X.N.Nodup) (hi : X.N[n]? = some x) (hv : PE X o (tVar i)) (hk : SE X k tk) (hx : Loc X.env.scope x := by first | exact Or.inl rfl | exact Or.inr rfl) (hpl : PlainIx k := by exact fun _ _ => rfl) (hbase : attributeBase (.Subscript o k pos') "pop" X.env (eval (.Subscript o k pos') X.env) = eval (.Subscript o k pos') X.env := by rfl)
    (hl : (apos.endLine == cpos.line) = true := by rfl) (hs : swapsWith (.Call (.Attribute (.Subscript o k pos') "pop" apos) [] [] cpos) (some (.Name x pos2)) pos.line X.env = pure false := by rfl) (hf : X.fn x = true ∨ X.env.scope.names.lookup x = some .local := by first | exact .inl rfl | exact .inr rfl) :
    VS X (.Assign [.Name x pos2] (.Call (.Attribute (.Subscript o k pos') "pop" apos) [] [] cpos) pos) (fun d ρ => ollAt ρ i fun dss => tk ρ fun c2 => inC c2 fun j => ∃ m row, ixN dss.length j = some m ∧ dss[m]? = some row ∧ ∃ y, row[row.length - 1]? = some y ∧ d.nx ((ρ.set i (.oll (dss.set m row.dropLast))).set n (.sh y))) := by
  refine ⟨fun B => ps_imp (ps_set hN hi hx (pe_bm0 PySem.F.plainAttrs_list PySem.F.slot_list_pop PySem.F.type_list_pop mt_pop (pe_ix ix_list hv (hk.pe B) hpl) hbase hl) hs hf) fun De σ H ⟨F, Ω, ρ, d, en, g, k⟩ => ?_⟩
  exact pop_core (X := X) (R := fun y ρ' => d.nx (ρ'.set n (.sh y))) en g fun y v F' Ω' H' ρ' gr en' rv h => k.nx _ F' Ω' H' _ gr (en'.set (Ext.refl en'.wd) (c := .sh y) ⟨rv, rfl⟩ ow_nil (fun _ m => nomatch m) n) h
/-! ### targets that write -/
theorem vgs_nil : VGs X [] [] (fun xs ρ G => xs = [] ∧ G ρ) := ⟨fun B => pgs_imp pgs_nil fun vs σ H Q ⟨F, Ω, ρ, xs, G, en, r, g, k⟩ => by
  obtain ⟨rfl, g⟩ := g
  cases r
  exact ⟨rfl, k σ F Ω H ρ (Gr.refl _) ⟨rfl, fun _ _ => rfl⟩ en g⟩⟩
theorem vgs_cons {g : VG'} {gs : VGs'} {S T : List Nat} (h1 : VG X e S g) (h2 : VGs X es T gs) (hs : (assignEach (e :: es) X.env).map (·.2) = assign e X.env :: (assignEach es X.env).map (·.2) := by rfl) : VGs X (e :: es) (S ++ T) (gConsV g gs) :=
  ⟨fun B => pgs_imp (pgs_cons (h1.pg B) (h2.pgs B) hs) fun vs σ H Q ⟨F, Ω, ρ, xs, G, en, r, g0, k⟩ => by
    cases r with
    | nil => exact g0.elim
    | cons r rs => exact ⟨_, _, rfl, F, Ω, ρ, _, _, en, r, g0, fun σ1 F1 Ω1 H1 ρ1 gr ch en1 g1 => ⟨F1, Ω1, ρ1, _, G, en1, rs.gr gr, g1, fun σ2 F2 Ω2 H2 ρ2 gr2 ch2 en2 g2 => k σ2 F2 Ω2 H2 ρ2 (gr.trans gr2) (ch.trans ch2) en2 g2⟩⟩⟩
theorem vg_tup {k n : Nat} {gs : VGs'} {S : List Nat} (h : VGs X es S gs) (hc : X.calm = true := by rfl) (hn : (assignEach es X.env).length = n := by rfl) (hst : (assignEach es X.env).findIdx? (·.1) = none := by rfl) : VG X (.Tuple es k pos) S (gTupV n gs) :=
  ⟨fun B => pg_imp (pg_tup hc (h.pgs B) hn hst) fun v σ H Q ⟨F, Ω, ρ, x, G, en, r, g0, k0⟩ => by
    unfold gTupV at g0
    split at g0
    · rename_i xs
      cases r with
      | tup e q => exact ⟨_, _, rfl, en.wd.sub.sqT (.inl (.inl e)), by rw [q.length]; exact g0.1, F, Ω, ρ, xs, G, en, q, g0.2, k0⟩
    · exact g0.elim⟩
/-- x[k][j] = .. -/
theorem vg_rowAt (i : Nat) {tk tj : TC} {k j : Expr} (hv : PE X o (tVar i)) (hk : SE X k tk) (hj : SE X j tj) (hpl : PlainIx k := by exact fun _ _ => rfl)
    (ha : ∀ v, assign (.Subscript (.Subscript o k pos') j pos) X.env v = (do
      let ov ← holding [v] (eval (.Subscript o k pos') X.env)
      let iv ← holding [v, ov] (eval j X.env)
      standAt pos
      holding [v, ov, iv] (setItem ov iv v)
      release [v, ov, iv] []) := by intro _; rfl) :
    VG X (.Subscript (.Subscript o k pos') j pos) [] (fun y ρ G => ollAt ρ i fun dss => tk ρ fun c2 => inC c2 fun ki => ∃ n row, ixN dss.length ki = some n ∧ dss[n]? = some row ∧ tj ρ fun c3 => inC c3 fun ji => ∃ m, ixN row.length ji = some m ∧ G (ρ.set i (.oll (dss.set n (row.set m y))))) := by
  refine ⟨fun B => pg_imp (pg_sub (pe_ix ix_list hv (hk.pe B) hpl) (hj.pe B) set_list ha) fun v σ H Q ⟨F, Ω, ρ, y, G, en, r, g, kk⟩ => ?_⟩
  obtain ⟨dss, hc, g⟩ := ollAt_get g
  refine row_pe (X := X) en hc g fun a vs n row p F1 Ω1 H1 x1 hσ ha' hrow hp hR _ => ?_
  have en1 := en.ext x1
  refine ⟨F1, Ω1, ρ, _, en1, hR, fun c3 v3 F2 Ω2 H2 A2 x2 r2 ow2 g2 => ?_⟩
  obtain ⟨ji, rfl, m, hm, gG⟩ := inC_get g2
  have ev := r2.1
  cases ev
  obtain ⟨us', h1, q, fin⟩ := en1.own2x x2 hc hσ ha' hrow hp
  exact ⟨p, us', ji, m, rfl, rfl, h1, by rw [q.length]; exact hm, kk σ F2 Ω2 _ _ (x1.sub.trans x2.sub) ⟨rfl, fun _ _ => rfl⟩ (fin _ _ (q.set ((r.gr x1.sub).gr x2.sub) m)) gG⟩
end
end TL
namespace TL
open PySem PySem.Spec PyProof.Rows L2
section
variable {X : Cx} {a b e o elt iter tg : Expr} {es ifs : List Expr} {pos pos' pos2 apos cpos : Pos} {K : Fg} {st : Stmt} {t u : TR}
def olC (c : C) (G : List D → Prop) : Prop := match c with
  | .ol ds => G ds
  | _ => False
theorem olC_get {c : C} {G : List D → Prop} (h : olC c G) : ∃ ds, c = .ol ds ∧ G ds := by
  unfold olC at h
  split at h
  · exact ⟨_, rfl, h⟩
  · exact h.elim
/-- xs[::-1] -/
def cRev (c : C) (G : CK) : Prop := ∃ ds, lsC c = some ds ∧ G (.ol ds.reverse)
theorem reps_rev {F : Hp} {vs : List V} {ds : List D} (h : Reps K F vs ds) : Reps K F vs.reverse ds.reverse := by
  induction vs generalizing ds with
  | nil => cases h; exact .nil
  | cons v vs ih =>
    cases h with
    | cons r t =>
      rw [List.reverse_cons, List.reverse_cons]
      exact (ih t).append (.cons r .nil)
theorem vc_rev {te : TC} {k : Nat} {p1 p2 p3 : Pos} (he : SE X e te) : VC X (.Subscript e (.Slice none none (some (.UnaryOp .USub (.Constant (.int 1) k p1) p2)) p3) pos) (cUn cRev te) :=
  ⟨fun B => pe_imp (pe_revL (he.pe B)) fun σ H Q h => up_un (r := fun x H1 Q => ∃ a xs, x = .ref a ∧ SqL X.K H1 a xs ∧ ∀ p, H1 p = none → Q (.ref p) (upd H1 p (.lst xs.reverse))) (fun F Ω H c v A G Q w r ⟨ds, hl, g⟩ k => by
    obtain ⟨a, vs, rfl, ea, qa⟩ := lsC_get w r hl
    exact ⟨a, vs, rfl, .inl (.inl ea), fun p n => k.ol w n (reps_rev qa) g⟩) h⟩
/-- an empty list of one's own is one of lists -/
def toL (i : Nat) (ρ : List C) (G : List C → Prop) : Prop := ρ[i]? = some (.ol []) ∧ G (ρ.set i (.oll []))
theorem vs_toL (i : Nat) (h : VS X st t) : VS X st (fun d ρ => toL i ρ (t d)) :=
  ⟨fun B => ps_imp (h.ps B) fun De σ H ⟨F, Ω, ρ, d, en, ⟨hc, g⟩, k⟩ => by
    obtain ⟨v, A, hv, r, ow, fin⟩ := en.chg hc (c' := .oll []) (by simp)
    obtain ⟨a, vs, rfl, rfl, ha, q⟩ := r
    cases q
    exact ⟨F, Ω, _, d, fin F Ω H [a] en.ex (Gr.refl _) (fun b _ _ => ⟨rfl, rfl, fun o h _ => h⟩) (fun _ _ h => h) ⟨a, [], [], rfl, rfl, ha, .nil, by simp⟩ ow (fun _ m => .inl m), g, k⟩⟩
/-- x.append([..]) -/
theorem vs_appendL (i : Nat) {te : TC} (hv : PE X o (tVar i)) (he : VC X e te) (hbase : attributeBase o "append" X.env (eval o X.env) = eval o X.env := by rfl)
    (h2 : ((backTo cpos (starEach [e] X.env)).all (fun x => !x.fst) && ((backToKw cpos (keywordEach [] X.env)).all fun x => x.fst.isSome) && decide ([e].length + ([] : List Keyword).length + (if ([] : List Keyword).isEmpty = true then 0 else 1) < 30)) = true := by rfl)
    (hl : (apos.endLine == cpos.line) = true := by rfl) (hs : starEach [e] X.env = (false, eval e X.env) :: starEach [] X.env := by rfl) (hx : swapsWith (.Call (.Attribute o "append" apos) [e] [] cpos) none pos.line X.env = pure false := by rfl) :
    VS X (.Expr (.Call (.Attribute o "append" apos) [e] [] cpos) pos) (fun d ρ => ollAt ρ i fun dss => te ρ fun c => olC c fun y => dss.length < sizeLine ∧ d.nx (ρ.set i (.oll (dss ++ [y])))) := by
  refine ⟨fun B => ps_imp (ps_expr (pe_bm PySem.F.plainAttrs_list PySem.F.slot_list_append PySem.F.type_list_append mt_append hv (pa_cons (he.pe B) pa_nil hs) hbase h2 hl hs) hx) fun De σ H ⟨F, Ω, ρ, d, en, g, k⟩ => ?_⟩
  obtain ⟨dss, hc, g⟩ := ollAt_get g
  obtain ⟨As, h1, h2', h3⟩ := en.own
  obtain ⟨v0, hv0, r0⟩ := h1 i _ hc (by simp)
  obtain ⟨a, vs, as, rfl, hA, ha, q, nd⟩ := r0
  have ia := h2' i a (by rw [hA]; exact List.mem_cons_self)
  refine ⟨.ref a, hv0, .inl ⟨rfl, vs, .inl (.inl ha)⟩, F, Ω, ρ, _, en, g, fun c v F' Ω' H' A x r ow f gc => ?_⟩
  obtain ⟨y, rfl, hlen, gy⟩ := olC_get gc
  obtain ⟨p, us, rfl, rfl, hp, qp⟩ := r
  have fp := f p List.mem_cons_self
  have op := ow p List.mem_cons_self
  have ha' := x.keep _ _ ha ia.2.1
  refine ⟨a, vs, .ref p, rfl, rfl, ha', by rw [q.length]; exact hlen, k.nx σ F' Ω' _ _ x.sub ?_ gy⟩
  obtain ⟨v2, A2, hv2, r2, ow2, fin⟩ := en.chg hc (c' := .oll (dss ++ [y])) (by simp)
  rw [hv0] at hv2
  cases hv2
  obtain ⟨a2, vs2, as2, e2, hA2, ha2, q2, nd2⟩ := r2
  cases e2
  rw [ha] at ha2
  cases ha2
  have own : ∀ b ∈ a :: as, F b = none ∧ Ω b = none ∧ H b ≠ none := fun b m => by
    have := h2' i b (by rw [hA]; exact m)
    exact ⟨this.1, this.2.1, this.2.2.1⟩
  have has : as = as2 := by
    have uq : ∀ {vs : List V} {dss dss' : List (List D)} {as as' : List Addr}, RLL X.K F H vs dss as → RLL X.K F H vs dss' as' → as = as' := by
      intro vs dss dss' as as' q q'
      induction q generalizing dss' as' with
      | nil => cases q'; rfl
      | cons _ _ _ ih =>
        cases q' with
        | cons _ _ t' => rw [ih t']
    exact uq q q2
  subst has
  have pne : ∀ b ∈ a :: as, p ≠ b := fun b m z => (own b m).2.2 (by rw [← z]; exact fp)
  have pas : p ∉ as := fun m => pne p (List.mem_cons_of_mem _ m) rfl
  rw [List.nodup_cons] at nd
  refine fin F' Ω' _ (a :: (as ++ [p])) ((en.ex.trans x).put ia.2.2.2 ((x.new a ia.2.2.1).trans ia.1) ((x.omn a ia.2.2.1).trans ia.2.1)) x.sub (fun b hb hh => ⟨x.new b hh, x.omn b hh, fun o h w => ?_⟩) x.omg ⟨a, vs ++ [.ref p], as ++ [p], rfl, rfl, upd_same, ?_, ?_⟩ (fun c m => ?_) (fun c m => ?_)
  · rw [upd_ne (fun z => hb (by rw [hA2, z]; exact List.mem_cons_self))]
    exact x.keep b o h w
  · refine RLL.append (q.go x.sub fun b m o h => ?_) (.cons (by rw [upd_ne (pne a List.mem_cons_self)]; exact hp) qp .nil)
    rw [upd_ne (fun z => nd.1 (by rw [← z]; exact m))]
    exact x.keep b o h (own b (List.mem_cons_of_mem _ m)).2.1
  · rw [List.nodup_cons, List.mem_append, List.mem_singleton]
    refine ⟨fun z => z.elim nd.1 fun z => pne a List.mem_cons_self z.symm, List.nodup_append.mpr ⟨nd.2, by simp, fun b hb c hc z => ?_⟩⟩
    rw [List.mem_singleton.mp hc] at z
    exact pas (z ▸ hb)
  · have go : ∀ b ∈ a :: as, F' b = none ∧ Ω' b = none := fun b m => ⟨(x.new b (own b m).2.2).trans (own b m).1, (x.omn b (own b m).2.2).trans (own b m).2.1⟩
    rcases List.mem_cons.mp m with rfl | m
    · exact go _ List.mem_cons_self
    · rcases List.mem_append.mp m with m | m
      · exact go _ (List.mem_cons_of_mem _ m)
      · rw [List.mem_singleton.mp m]; exact op
  · rcases List.mem_cons.mp m with rfl | m
    · exact .inl (by rw [hA2]; exact List.mem_cons_self)
    · rcases List.mem_append.mp m with m | m
      · exact .inl (by rw [hA2]; exact List.mem_cons_of_mem _ m)
      · rw [List.mem_singleton.mp m]; exact .inr fp
/-! ### a comprehension of lists of one's own -/
def lcRunL (g : VG') (tt : TB) (te : TC) (ρ : List C) : List D → (List (List D) → Prop) → Prop
  | [], k => k []
  | x :: r, k => g x ρ fun ρ1 => tt ρ1 fun b => if b = true then te ρ1 fun c => olC c fun y => lcRunL g tt te ρ r fun ys => k (y :: ys) else lcRunL g tt te ρ r k
def cLcL (ti : TDs) (g : VG') (tt : TB) (te : TC) (vs : List Nat) : TC := fun ρ G => ti ρ fun ds => ds.length ≤ sizeLine ∧ lcRunL g tt te (wipeC ρ vs) ds fun ys => G (.oll ys)
theorem lcL_up {B : Bs} {ti : TDs} {g : VG'} {tt : TB} {te : TC} {vs S : List Nat} (hS : ∀ i ∈ S, i ∈ vs) {σ : L2.St} {H : Hp} {Q : VK} (h : upC K B (cLcL ti g tt te vs) σ H Q) :
    tLc (upJ K B ti) (upN K B S g) (upB K B tt) (upC K B te) vs σ H Q := by
  obtain ⟨F, Ω, ρ, G, en, g0, k⟩ := h
  refine ⟨F, Ω, ρ, _, en, g0, fun ds J F1 Ω1 H1 x1 wk ⟨hz, run⟩ D nD => ?_⟩
  have w1 := x1.wd
  have fD : F1 D = none := w1.sub.none nD
  have oD : Ω1 D = none := w1.om_none nD
  refine ⟨fun i m H' => m = ds.length - i ∧ i ≤ ds.length ∧ ∃ F' Ω' acc ys as, Ext F1 Ω1 H1 F' Ω' H' ∧ F' D = none ∧ Ω' D = none ∧ H' D = some (.lst acc) ∧ acc.length ≤ i ∧ RLL K F' H' acc ys as ∧ (∀ b ∈ as, F' b = none ∧ Ω' b = none ∧ H' b ≠ none ∧ H1 b = none ∧ b ≠ D) ∧ as.Nodup ∧ lcRunL g tt te (wipeC ρ vs) (ds.drop i) fun zs => G (.oll (ys ++ zs)), ⟨ds.length, by simp, Nat.zero_le _, F1, Ω1, [], [], [], Ext.laid w1 nD, fD, oD, upd_same, Nat.le_refl _, .nil, by simp, .nil, by simpa using run⟩, ?_⟩
  rintro i m H' ⟨rfl, hi, F', Ω', acc, ys, as, x', f', o', hD, hl, q, hw, nd, run'⟩
  have en' := (en.ext x1).ext x'
  by_cases hlt : i < ds.length
  · refine .inr ⟨wk.go F' Ω' H' i x'.sub x' hlt, fun H3 => ∃ F' Ω' acc ys as, Ext F1 Ω1 H1 F' Ω' H3 ∧ F' D = none ∧ Ω' D = none ∧ H3 D = some (.lst acc) ∧ acc.length ≤ i + 1 ∧ RLL K F' H3 acc ys as ∧ (∀ b ∈ as, F' b = none ∧ Ω' b = none ∧ H3 b ≠ none ∧ H1 b = none ∧ b ≠ D) ∧ as.Nodup ∧ lcRunL g tt te (wipeC ρ vs) (ds.drop (i + 1)) fun zs => G (.oll (ys ++ zs)), fun H3 q3 => ⟨ds.length - (i + 1), by omega, rfl, hlt, q3⟩, fun x H3 hy => ?_⟩
    obtain ⟨F3, x3, r3⟩ := wk.yld F' Ω' H' i x H3 ds[i] x'.sub x' (by simp [hlt]) hy
    rw [List.drop_eq_getElem_cons hlt] at run'
    have nz : H' D ≠ none := by rw [hD]; simp
    refine ⟨F3, Ω', wipeC ρ vs, ds[i], _, (en'.ext x3).wipe vs, r3, run', fun σ4 ρ4 ch4 en4 g4 => ⟨wipe_chg ch4 hS, ?_⟩⟩
    refine ⟨F3, Ω', ρ4, _, en4, g4, fun b F5 Ω5 H5 x5 g5 => ?_⟩
    have xx := x'.trans (x3.trans x5)
    have d5 : ∀ {F6 : Hp} {Ω6 : Om} {H6 : Hp}, Ext F' Ω' H' F6 Ω6 H6 → F6 D = none ∧ Ω6 D = none ∧ H6 D = some (.lst acc) := fun x6 => ⟨(x6.new D nz).trans f', (x6.omn D nz).trans o', x6.keep D _ hD o'⟩
    have q5 : ∀ {F6 : Hp} {Ω6 : Om} {H6 : Hp}, Ext F' Ω' H' F6 Ω6 H6 → RLL K F6 H6 acc ys as ∧ ∀ b ∈ as, F6 b = none ∧ Ω6 b = none ∧ H6 b ≠ none ∧ H1 b = none ∧ b ≠ D := fun x6 => ⟨q.go x6.sub fun b m o h => x6.keep b o h (hw b m).2.1, fun b m => by
      obtain ⟨a1, a2, a3, a4, a5⟩ := hw b m
      exact ⟨(x6.new b a3).trans a1, (x6.omn b a3).trans a2, x6.here b a3, a4, a5⟩⟩
    cases b with
    | false =>
      obtain ⟨a1, a2, a3⟩ := d5 (x3.trans x5)
      obtain ⟨b1, b2⟩ := q5 (x3.trans x5)
      exact iteF ⟨F5, Ω5, acc, ys, as, xx, a1, a2, a3, by omega, b1, b2, nd, by simpa using g5⟩
    | true =>
      rw [if_pos rfl] at g5
      refine iteT ⟨F5, Ω5, ρ4, _, en4.ext x5, g5, fun c v F6 Ω6 H6 A6 x6 r6 o6 f6 gy => ?_⟩
      obtain ⟨y, rfl, gy⟩ := olC_get gy
      obtain ⟨p, us, rfl, rfl, hp, qp⟩ := r6
      have fp := f6 p List.mem_cons_self
      have op := o6 p List.mem_cons_self
      obtain ⟨a1, a2, a3⟩ := d5 ((x3.trans x5).trans x6)
      obtain ⟨b1, b2⟩ := q5 ((x3.trans x5).trans x6)
      obtain ⟨_, c2⟩ := q5 (x3.trans x5)
      have pD : p ≠ D := fun z => by
        have := (d5 (x3.trans x5)).2.2
        rw [← z, fp] at this
        cases this
      have pas : p ∉ as := fun m => (c2 p m).2.2.1 fp
      have p1 : H1 p = none := xx.free fp
      refine ⟨acc, a3, Nat.lt_of_lt_of_le (Nat.lt_of_le_of_lt hl hlt) hz, F6, Ω6, acc ++ [.ref p], ys ++ [y], as ++ [p], ?_, a1, a2, upd_same, by simp; omega, ?_, fun b m => ?_, ?_, ?_⟩
      · have z := Ext.put (B := ⟨F1, Ω1, H1⟩) (o := .lst (acc ++ [.ref p])) (xx.trans x6) nD a1 a2
        exact z
      · refine RLL.append (b1.go (Gr.refl _) fun b m o h => ?_) (.cons (by rw [upd_ne pD]; exact hp) qp .nil)
        rw [upd_ne (b2 b m).2.2.2.2]; exact h
      · rcases List.mem_append.mp m with m | m
        · obtain ⟨z1, z2, z3, z4, z5⟩ := b2 b m
          exact ⟨z1, z2, by rw [upd_ne z5]; exact z3, z4, z5⟩
        · rw [List.mem_singleton.mp m]
          exact ⟨op.1, op.2, by rw [upd_ne pD, hp]; simp, p1, pD⟩
      · refine List.nodup_append.mpr ⟨nd, by simp, fun b hb c hc z => ?_⟩
        rw [List.mem_singleton.mp hc] at z
        exact pas (z ▸ hb)
      · have m : (fun zs => G (.oll (ys ++ [y] ++ zs))) = fun zs => G (.oll (ys ++ y :: zs)) := by
          funext zs
          rw [List.append_assoc]
          rfl
        rw [m]
        exact gy
  · have e : i = ds.length := by omega
    subst e
    rw [List.drop_length] at run'
    refine .inl ⟨wk.stop F' Ω' H' _ x'.sub x' (Nat.le_refl _), k (.oll ys) _ F' Ω' H' (D :: as) (x1.trans x') ⟨D, acc, as, rfl, rfl, hD, q, List.nodup_cons.mpr ⟨fun m => (hw D m).2.2.2.2 rfl, nd⟩⟩ (fun c m => ?_) (fun c m => ?_) ?_⟩
    · rcases List.mem_cons.mp m with rfl | m
      · exact ⟨f', o'⟩
      · exact ⟨(hw c m).1, (hw c m).2.1⟩
    · rcases List.mem_cons.mp m with rfl | m
      · exact x1.free nD
      · exact x1.free (hw c m).2.2.2.1
    · simpa [lcRunL] using run'
theorem vs_setLcL {n : Nat} {y : Str} {py spos : Pos} {scope : Scope} {own : List (Str × Nat)} {ti : TDs} {g : VG'} {tt : TB} {te : TC} {S : List Nat} (hN : X.N.Nodup) (hy : X.N[n]? = some y) (hyl : X.env.scope.names.lookup y = some .local)
    (hsw : swapsWith (.ListComp elt [⟨tg, iter, ifs, 0⟩] scope pos) (some (.Name y py)) spos.line X.env = pure true) (hi : VJ X tg iter ti) (ok : blkC X.N X.env.scope scope own = true)
    (hg : ∀ (s : Shared) (H : Hp) (C : Addr) (cl : List (Str × Addr)) (fp : List Addr), VN (X.blk s H scope (compEnvC scope cl C X.env) fp) tg S g)
    (ht : ∀ (s : Shared) (H : Hp) (C : Addr) (cl : List (Str × Addr)) (fp : List Addr), VTs (X.blk s H scope (compEnvC scope cl C X.env) fp) ifs tt)
    (he : ∀ (s : Shared) (H : Hp) (C : Addr) (cl : List (Str × Addr)) (fp : List Addr), VC (X.blk s H scope (compEnvC scope cl C X.env) fp) elt te)
    (hS : ∀ i ∈ S, i ∈ own.map (·.2) := by decide) (hc : X.calm = true := by rfl) (hs : ∀ x, foldedSetIterable iter X.env x = pure x := by intro _; rfl) :
    VS X (.Assign [.Name y py] (.ListComp elt [⟨tg, iter, ifs, 0⟩] scope pos) spos) (fun d ρ => cLcL ti g tt te (own.map (·.2)) ρ fun c => d.nx (ρ.set n c)) :=
  ⟨fun B => ps_imp (ps_setLc hc hN hy hyl hsw (hi.pi B) (blkOk_by ok) (fun s H C cl fp => (hg s H C cl fp).pg B) (fun s H C cl fp => (ht s H C cl fp).pts B) (fun s H C cl fp => (he s H C cl fp).pe B) hs) fun De σ H ⟨F, Ω, ρ, d, en, g0, k⟩ =>
    lcL_up hS ⟨F, Ω, ρ, _, en, g0, fun c v F' Ω' H' A x r o f gc => k.nx _ F' Ω' H' _ x.sub (en.set x r o f n) gc⟩⟩
theorem vc_lcL {scope : Scope} {own : List (Str × Nat)} {ti : TDs} {g : VG'} {tt : TB} {te : TC} {S : List Nat} (hN : X.N.Nodup) (hi : VJ X tg iter ti) (ok : blkC X.N X.env.scope scope own = true)
    (hg : ∀ (s : Shared) (H : Hp) (C : Addr) (cl : List (Str × Addr)) (fp : List Addr), VN (X.blk s H scope (compEnvC scope cl C X.env) fp) tg S g)
    (ht : ∀ (s : Shared) (H : Hp) (C : Addr) (cl : List (Str × Addr)) (fp : List Addr), VTs (X.blk s H scope (compEnvC scope cl C X.env) fp) ifs tt)
    (he : ∀ (s : Shared) (H : Hp) (C : Addr) (cl : List (Str × Addr)) (fp : List Addr), VC (X.blk s H scope (compEnvC scope cl C X.env) fp) elt te)
    (hS : ∀ i ∈ S, i ∈ own.map (·.2) := by decide) (hc : X.calm = true := by rfl) (hs : ∀ x, foldedSetIterable iter X.env x = pure x := by intro _; rfl) :
    VC X (.ListComp elt [⟨tg, iter, ifs, 0⟩] scope pos) (cLcL ti g tt te (own.map (·.2))) :=
  ⟨fun B => pe_imp (pe_lc hc hN (hi.pi B) (blkOk_by ok) (fun s H C cl fp => (hg s H C cl fp).pg B) (fun s H C cl fp => (ht s H C cl fp).pts B) (fun s H C cl fp => (he s H C cl fp).pe B) hs) fun σ H Q h => lcL_up hS h⟩
/-! ### x = [row for row in x if row] -/
def fl {α : Type} : List α → List (List D) → List α
  | v :: vs, d :: ds => if d.isEmpty = true then fl vs ds else v :: fl vs ds
  | _, _ => []
theorem fl_len {α : Type} : ∀ (vs : List α) (ds : List (List D)), (fl vs ds).length ≤ vs.length
  | [], _ => by simp [fl]
  | _ :: _, [] => by simp [fl]
  | v :: vs, d :: ds => by
    have := fl_len vs ds
    unfold fl
    split
    · simp; omega
    · simp; omega
theorem fl_sub {α : Type} : ∀ (vs : List α) (ds : List (List D)), (fl vs ds).Sublist vs
  | [], _ => by simp [fl]
  | _ :: _, [] => by simp [fl]
  | v :: vs, d :: ds => by
    unfold fl
    split
    · exact (fl_sub vs ds).cons _
    · exact (fl_sub vs ds).cons_cons _
theorem fl_snoc {α : Type} : ∀ (vs : List α) (ds : List (List D)) (j : Nat) (v : α) (d : List D), vs[j]? = some v → ds[j]? = some d → fl (vs.take (j + 1)) (ds.take (j + 1)) = fl (vs.take j) (ds.take j) ++ if d.isEmpty = true then [] else [v]
  | [], _, _, _, _, h, _ => by simp at h
  | _ :: _, [], _, _, _, _, h => by simp at h
  | v :: vs, d :: ds, 0, _, _, h1, h2 => by
    simp at h1 h2
    subst h1 h2
    simp [fl]
  | v :: vs, d :: ds, j + 1, w, e, h1, h2 => by
    have ih := fl_snoc vs ds j w e (by simpa using h1) (by simpa using h2)
    rw [List.take_succ_cons, List.take_succ_cons, List.take_succ_cons, List.take_succ_cons]
    unfold fl
    by_cases hd : d.isEmpty = true
    · rw [if_pos hd, if_pos hd, ih]
    · rw [if_neg hd, if_neg hd, ih, List.cons_append]
theorem fl_dss : ∀ (ds : List (List D)), fl ds ds = ds.filter fun d => !d.isEmpty
  | [] => rfl
  | d :: ds => by
    unfold fl
    rw [fl_dss ds]
    cases h : d.isEmpty <;> simp [h]
theorem RLL.fl {F H H' : Hp} : ∀ {vs : List V} {dss : List (List D)} {as : List Addr}, RLL K F H vs dss as → (∀ a ∈ as, ∀ o, H a = some o → H' a = some o) → RLL K F H' (TL.fl vs dss) (dss.filter fun d => !d.isEmpty) (TL.fl as dss)
  | _, _, _, .nil, _ => .nil
  | _, _, _, .cons (ds := d) e r t, h => by
    have ih := t.fl fun a m o q => h a (List.mem_cons_of_mem _ m) o q
    unfold TL.fl
    cases hd : d.isEmpty with
    | true => simpa [hd] using ih
    | false =>
      simp only [hd, Bool.false_eq_true, if_false, List.filter_cons, Bool.not_false, if_true]
      exact .cons (h _ List.mem_cons_self _ e) r ih
theorem En.swapL {B : Bs} {F : Hp} {Ω : Om} {H : Hp} {σ : L2.St} {ρ : List C} (en : En K B F Ω H σ ρ) {i : Nat} {dss : List (List D)} (hc : ρ[i]? = some (.oll dss)) {D0 : Addr} (nD : H D0 = none) {a : Addr} {vs : List V} (hσ : σ[i]? = some (some (.ref a))) (ha : H a = some (.lst vs)) :
    En K B F Ω (upd H D0 (.lst (fl vs dss))) (σ.set i (some (.ref D0))) (ρ.set i (.oll (dss.filter fun d => !d.isEmpty))) := by
  have fD : F D0 = none := en.wd.sub.none nD
  have oD : Ω D0 = none := en.wd.om_none nD
  have xl := Ext.laid (o := .lst (fl vs dss)) en.wd nD
  obtain ⟨As, h1, h2, h3⟩ := en.own
  obtain ⟨v0, hv0, r0⟩ := h1 i _ hc (by simp)
  rw [hσ] at hv0
  cases hv0
  obtain ⟨a', vs', as, e', hA, ha', q, nd⟩ := r0
  cases e'
  rw [ha] at ha'
  cases ha'
  rw [List.nodup_cons] at nd
  have hl : i < ρ.length := (List.getElem?_eq_some_iff.mp hc).1
  have hls : i < σ.length := (List.getElem?_eq_some_iff.mp hσ).1
  have keep : ∀ b o, H b = some o → upd H D0 (.lst (fl vs dss)) b = some o := fun b o h => by rw [upd_ne (fun z => by rw [z, nD] at h; cases h)]; exact h
  have asH : ∀ b ∈ as, H b ≠ none := fun b m => (h2 i b (by rw [hA]; exact List.mem_cons_of_mem _ m)).2.2.1
  have sub := (fl_sub as dss)
  have Dn : D0 ∉ fl as dss := fun m => asH D0 (sub.subset m) nD
  refine ⟨en.ex.trans xl, by rw [List.length_set, List.length_set]; exact en.len, putA As i (D0 :: fl as dss), fun j c hcj hn => ?_, fun j b m => ?_, fun j k hjk b m => ?_⟩
  · by_cases hj : j = i
    · subst hj
      rw [List.getElem?_set_self hl] at hcj
      cases hcj
      rw [putA_same, List.getElem?_set_self hls]
      exact ⟨_, rfl, D0, _, _, rfl, rfl, upd_same, q.fl fun b m o h => keep b o h, List.nodup_cons.mpr ⟨Dn, sub.nodup nd.2⟩⟩
    · rw [List.getElem?_set_ne (Ne.symm hj)] at hcj
      rw [putA_ne hj, List.getElem?_set_ne (Ne.symm hj)]
      obtain ⟨v, hv, r⟩ := h1 j c hcj hn
      exact ⟨v, hv, r.go (Gr.refl _) (fun b m o h => keep b o h) fun _ _ h => h⟩
  · by_cases hj : j = i
    · subst hj
      rw [putA_same] at m
      rcases List.mem_cons.mp m with rfl | m
      · exact ⟨fD, oD, by rw [upd_same]; simp, en.ex.free nD⟩
      · have := h2 j b (by rw [hA]; exact List.mem_cons_of_mem _ (sub.subset m))
        exact ⟨this.1, this.2.1, xl.here b this.2.2.1, this.2.2.2⟩
    · rw [putA_ne hj] at m
      have := h2 j b m
      exact ⟨this.1, this.2.1, xl.here b this.2.2.1, this.2.2.2⟩
  · have own : ∀ j b, b ∈ putA As i (D0 :: fl as dss) j → b = D0 ∧ j = i ∨ b ∈ As j := fun j b m => by
      by_cases hj : j = i
      · subst hj
        rw [putA_same] at m
        rcases List.mem_cons.mp m with rfl | m
        · exact .inl ⟨rfl, rfl⟩
        · exact .inr (by rw [hA]; exact List.mem_cons_of_mem _ (sub.subset m))
      · rw [putA_ne hj] at m
        exact .inr m
    intro m'
    rcases own j b m with ⟨e1, e2⟩ | m1 <;> rcases own k b m' with ⟨e3, e4⟩ | m2
    · exact hjk (e2.trans e4.symm)
    · rw [e1] at m2; exact (h2 k D0 m2).2.2.1 nD
    · rw [e3] at m1; exact (h2 j D0 m1).2.2.1 nD
    · exact h3 j k hjk b m1 m2
theorem updW {H : Hp} {a : Addr} {o o' : HO} : upd (upd H a o) a o' = upd H a o' := by
  funext b
  by_cases h : b = a
  · rw [h, upd_same, upd_same]
  · rw [upd_ne h, upd_ne h, upd_ne h]
theorem vs_filterL (i r : Nat) {y z : Str} {py p1 p2 p3 p4 spos : Pos} {scope : Scope} {own : List (Str × Nat)} (hN : X.N.Nodup) (hy : X.N[i]? = some y) (hyl : X.env.scope.names.lookup y = some .local)
    (hsw : swapsWith (.ListComp (.Name z p1) [⟨.Name z p2, .Name y p3, [.Name z p4], 0⟩] scope pos) (some (.Name y py)) spos.line X.env = pure true) (hv : PE X (.Name y p3) (tVar i)) (ok : blkC X.N X.env.scope scope own = true)
    (hg : ∀ (s : Shared) (H : Hp) (C : Addr) (cl : List (Str × Addr)) (fp : List Addr), PG (X.blk s H scope (compEnvC scope cl C X.env) fp) (.Name z p2) (gName r))
    (ht : ∀ (s : Shared) (H : Hp) (C : Addr) (cl : List (Str × Addr)) (fp : List Addr), PE (X.blk s H scope (compEnvC scope cl C X.env) fp) (.Name z p4) (tVar r))
    (he : ∀ (s : Shared) (H : Hp) (C : Addr) (cl : List (Str × Addr)) (fp : List Addr), PE (X.blk s H scope (compEnvC scope cl C X.env) fp) (.Name z p1) (tVar r))
    (hr : r ∈ own.map (·.2) := by decide) (hc : X.calm = true := by rfl) (hs : ∀ x, foldedSetIterable (.Name y p3) X.env x = pure x := by intro _; rfl) :
    VS X (.Assign [.Name y py] (.ListComp (.Name z p1) [⟨.Name z p2, .Name y p3, [.Name z p4], 0⟩] scope pos) spos) (fun d ρ => ollAt ρ i fun dss => dss.length ≤ sizeLine ∧ (ρ[r]?).isSome = true ∧ d.nx (ρ.set i (.oll (dss.filter fun d => !d.isEmpty)))) := by
  refine ⟨fun B => ps_imp (ps_setLc (tt := fun σ H Q => tVar r σ H fun x H' => ∃ k, TruV X.K x H' k ∧ Q k H') hc hN hy hyl hsw (pi_list hv) (blkOk_by ok) hg (fun s H C cl fp => pts_one (pt_truth (ht s H C cl fp) (fun _ => rfl))) he hs) fun De σ H ⟨F, Ω, ρ, d, en, g, k⟩ => ?_⟩
  obtain ⟨dss, hcc, hz, hrl, g⟩ := ollAt_get g
  obtain ⟨a, vs, hσ, ha, oa, hl, rows⟩ := en.own2 hcc
  have hrs : r < σ.length := by
    rw [← en.len]
    cases hq : ρ[r]? with
    | none => rw [hq] at hrl; cases hrl
    | some c => exact (List.getElem?_eq_some_iff.mp hq).1
  refine ⟨.ref a, hσ, a, rfl, ⟨vs, .inl (.inl ha)⟩, fun D nD => ⟨fun j m H' => m = vs.length - j ∧ j ≤ vs.length ∧ H' = upd H D (.lst (fl (vs.take j) (dss.take j))), ⟨vs.length, by simp, Nat.zero_le _, by simp [fl]⟩, ?_⟩⟩
  rintro j m H' ⟨rfl, hj, rfl⟩
  have aD : a ≠ D := fun z => by rw [z, nD] at ha; cases ha
  have ha' : upd H D (.lst (fl (vs.take j) (dss.take j))) a = some (.lst vs) := by rw [upd_ne aD]; exact ha
  by_cases hlt : j < vs.length
  · refine .inr ⟨⟨vs, vs[j], .inl (.inl ha'), List.getElem?_eq_getElem hlt⟩, fun H3 => H3 = upd H D (.lst (fl (vs.take (j + 1)) (dss.take (j + 1)))), fun H3 e => ⟨vs.length - (j + 1), by omega, rfl, hlt, e⟩, fun x H'' ⟨e, hx⟩ => ?_⟩
    subst e
    have hx := hx vs (.inl (.inl ha'))
    have hd : dss[j]? = some (dss[j]'(by omega)) := List.getElem?_eq_getElem (by omega)
    obtain ⟨p, us, hp1, hp2, hp3, _⟩ := rows j _ hd
    rw [hx] at hp1
    cases hp1
    have pD : p ≠ D := fun z => by rw [z, nD] at hp2; cases hp2
    have sn := fl_snoc vs dss j (.ref p) _ hx hd
    refine ⟨wipe_chg (Chg.set _ r _) (fun i hi => by rw [List.mem_singleton.mp hi]; exact hr), ?_⟩
    have hr2 : ((L2.wipe σ (own.map (·.2))).set r (some (.ref p)))[r]? = some (some (.ref p)) := List.getElem?_set_self (by rw [wipe_length]; exact hrs)
    refine ⟨.ref p, hr2, !us.isEmpty, .inl ⟨us, .inl (.inl (by rw [upd_ne pD]; exact hp2)), rfl⟩, ?_⟩
    have emp : us.isEmpty = (dss[j]'(by omega)).isEmpty := hp3.isEmpty
    rw [emp]
    cases hb : (dss[j]'(by omega)).isEmpty with
    | true =>
      refine iteF ?_
      rw [sn, hb]
      simp
    | false =>
      refine iteT ⟨.ref p, hr2, _, upd_same, Nat.lt_of_le_of_lt (fl_len _ _) (by rw [List.length_take]; omega), ?_⟩
      rw [updW, sn, hb]
      rfl
  · have e : j = vs.length := by omega
    subst e
    refine .inl ⟨⟨vs, .inl (.inl ha'), Nat.le_refl _⟩, ?_⟩
    rw [List.take_length, hl, List.take_length]
    exact k.nx _ F Ω _ _ (Gr.refl _) (en.swapL hcc nD hσ ha) g
end
end TL
namespace TL
open PySem PySem.Spec PyProof.Rows L2
section
variable {X : Cx} {es ifs : List Expr} {elt tg iter : Expr} {pos : Pos}
/-! ### (a, b) = a list -/
def gLstV (n : Nat) (gs : VGs') : VG' := fun x ρ G => match x with
  | .list xs => xs.length = n ∧ gs xs ρ G
  | _ => False
theorem vn_lst {k n : Nat} {gs : VGs'} {S : List Nat} (h : VNs X es S gs) (hc : X.calm = true := by rfl) (hn : (assignEach es X.env).length = n := by rfl) (hst : (assignEach es X.env).findIdx? (·.1) = none := by rfl) : VN X (.Tuple es k pos) S (gLstV n gs) :=
  ⟨fun B => pg_imp (pg_unl hc (h.pgs B) hn hst) fun v σ H Q ⟨F, Ω, ρ, x, G, en, r, g0, k0⟩ => by
    unfold gLstV at g0
    split at g0
    · rename_i xs
      cases r with
      | lst e q =>
        exact ⟨_, _, rfl, .inl (.inl (en.wd.sub.lst e)), by rw [q.length]; exact g0.1, F, Ω, ρ, xs, G, en, q, g0.2, k0⟩
    · exact g0.elim⟩
/-- y = [.. x[..] ..], x lent -/
theorem vs_setLcLend (i : Nat) {n : Nat} {y : Str} {py spos : Pos} {scope : Scope} {own : List (Str × Nat)} {ti : TDs} {g : VG'} {tt : TB} {te : TC} {S : List Nat} (hN : X.N.Nodup) (hy : X.N[n]? = some y) (hyl : X.env.scope.names.lookup y = some .local)
    (hsw : swapsWith (.ListComp elt [⟨tg, iter, ifs, 0⟩] scope pos) (some (.Name y py)) spos.line X.env = pure true) (hi : VJ X tg iter ti) (ok : blkC X.N X.env.scope scope own = true)
    (hg : ∀ (s : Shared) (H : Hp) (C : Addr) (cl : List (Str × Addr)) (fp : List Addr), VN (X.blk s H scope (compEnvC scope cl C X.env) fp) tg S g)
    (ht : ∀ (s : Shared) (H : Hp) (C : Addr) (cl : List (Str × Addr)) (fp : List Addr), VTs (X.blk s H scope (compEnvC scope cl C X.env) fp) ifs tt)
    (he : ∀ (s : Shared) (H : Hp) (C : Addr) (cl : List (Str × Addr)) (fp : List Addr), VC (X.blk s H scope (compEnvC scope cl C X.env) fp) elt te)
    (hS : ∀ i ∈ S, i ∈ own.map (·.2) := by decide) (hc : X.calm = true := by rfl) (hs : ∀ x, foldedSetIterable iter X.env x = pure x := by intro _; rfl) :
    VS X (.Assign [.Name y py] (.ListComp elt [⟨tg, iter, ifs, 0⟩] scope pos) spos) (fun d ρ => cLend i (cLc ti g tt te (own.map (·.2))) ρ fun c => d.nx (ρ.set n c)) :=
  ⟨fun B => ps_imp (ps_setLc hc hN hy hyl hsw (hi.pi Bs0) (blkOk_by ok) (fun s H C cl fp => (hg s H C cl fp).pg Bs0) (fun s H C cl fp => (ht s H C cl fp).pts Bs0) (fun s H C cl fp => (he s H C cl fp).vd.vc.pe Bs0) hs) fun De σ H ⟨F, Ω, ρ, d, en, ⟨dss, hcc, g0⟩, k⟩ => by
    obtain ⟨F1, en1, back⟩ := lend_core en hcc
    refine lc_up hS ⟨F1, _, _, _, en1, g0, fun c v F2 Ω2 H2 A x r ow f ⟨hcl, gc⟩ => ?_⟩
    obtain ⟨F3, x3, fr, rc⟩ := back F2 Ω2 H2 x
    exact k.nx _ F3 Ω H2 _ x3.sub (en.set x3 (rc c v A r hcl) (fun a m => fr a (f a m) (ow a m).1) f n) gc⟩
end
end TL
namespace PySem
open AutoSeq1 (wpAny_loadPart')
set_option maxHeartbeats 1000000 in
theorem meets_enumerate_newT1 {v : Value} {o : Obj} {H : Heap → Prop} (B : Begins v o H) :
    Meets (Builtin.«enumerate.__new__» ⟨[.type "enumerate", v], []⟩) (fun _ R s => H s.heap ∧
      R (.ok (.ret (.ref (s.heap.push o).objs.size))) { s with heap := (s.heap.push o).push { cls := .type "enumerate", data := .fields #[.none, .bool false, .ref s.heap.objs.size, rawInt 0, .none, .none] } }) :=
  .of_wp fun prog w A R s h => by
    obtain ⟨hp, g, d, tk, os⟩ := s; obtain ⟨h1, h⟩ := h
    have hsub := sub_enumerate
    have q1 : ∀ {A' : Around} {E : Value → Shared → Prop} {Q : Value → Shared → Prop}, Q (.ref hp.objs.size) ⟨hp.push o, g, d, tk, os⟩ → wpAny (model prog w) A' (pyIter v) Q E ⟨hp, g, d, tk, os⟩ :=
      fun q => B.iter prog w _ _ ⟨hp, g, d, tk, os⟩ _ h1 q
    wp_walk using q1
    refine wpAny_stack_any fun st => wpAny_pure ?_
    split
    · rename_i c _ _ _ _ _
      cases (c == Value.type "enumerate")
      · wp_walk using q1
        exact ⟨_, rfl, h⟩
      · wp_walk using q1
        exact ⟨_, rfl, h⟩
    · wp_walk using q1
      exact ⟨_, rfl, h⟩
section
variable {prog : Program} {w : World} {A : Around} {E : Value → Shared → Prop} {s : Shared}
/-- enumerate(t) at its end, t a tuple (turned from the case of a list) -/
theorem enum_endT {e it l : Addr} {i : Nat} {j : Int} {items : Array Value} {old : Value} {Q : Option Value → Shared → Prop} (hh : A.handled = none)
    (he : IsEnum s.heap e it j old) (hit : s.heap.IsTupleIter it l i) (hl : s.heap.IsTuple l items) (hx : items[i]? = none)
    (hQ : ∀ h', Heap.ExtBut it s.heap h' → Q none { s with heap := h' }) : wpAny (model prog w) A (pyNext (.ref e)) Q E s := by
  have hT : s.TypeIs (.ref e) "enumerate" := ⟨_, he, rfl⟩
  unfold pyNext
  refine wpAny_bind (wpAny_attempt (wpAny_callSpecial?_slot (name := Str.ofString "__next__") hT F.slot_enumerate_next
    (wpAny_call_entry F.slot_enumerate_next hT F.entry_enumerate_next ?_ (F.args_enumerate_next_1 _))))
  show wpAny _ _ (field (.ref e) 2 >>= _) _ _ _
  refine wpAny_bind (wpAny_field he rfl (x := .ref it) rfl ?_)
  refine wpAny_bind (wpAny_nextOf_tuple_end hh hit hl hx fun h' x he' hx' => ?_)
  obtain ⟨o, ho, hc⟩ := hx'
  refine wpAny_bind (wpAny_isInstance (T := "StopIteration") (b := true) ⟨o, ho, hc⟩ isSubtype_stop ?_)
  exact wpAny_pure (hQ _ he')
theorem enum_begins1 {v : Value} {o : Obj} {H : Heap → Prop} {Q : Value → Shared → Prop} (B : Begins v o H) (h1 : H s.heap)
    (h : ∀ h', IsEnum h' (s.heap.objs.size + 1) s.heap.objs.size 0 .none → h'.get? s.heap.objs.size = some o → h'.objs.size = s.heap.objs.size + 2 →
      (∀ b o, s.heap.get? b = some o → h'.get? b = some o) → Q (.ref (s.heap.objs.size + 1)) { s with heap := h' }) :
    wpAny (model prog w) A (call (.type "enumerate") [v]) Q E s := by
  refine callType_new F.called_enumerate (by decide) (F.typeCall_enumerate_1 _) (F.newCall_enumerate_1 _) (fun obj => F.args_object_init_2 obj _) F.entry_enumerate_new
    (meets_enumerate_newT1 B) ⟨h1, ?_⟩
  have hz : (s.heap.push o).objs.size = s.heap.objs.size + 1 := Heap.size_push ..
  show _ ∧ _
  rw [hz]
  have he : IsEnum ((s.heap.push o).push { cls := .type "enumerate", data := .fields #[.none, .bool false, .ref s.heap.objs.size, rawInt 0, .none, .none] }) (s.heap.objs.size + 1) s.heap.objs.size 0 .none := by
    have := Heap.get?_push_size (s.heap.push o) (o := { cls := .type "enumerate", data := .fields #[.none, .bool false, .ref s.heap.objs.size, rawInt 0, .none, .none] }) rfl
    rw [hz] at this; exact this
  refine ⟨⟨_, he, rfl⟩, h _ he (Heap.get?_push_of_some _ (Heap.get?_push_size _ B.free)) (by rw [Heap.size_push, hz]) fun b o x => Heap.get?_push_of_some _ (Heap.get?_push_of_some _ x)⟩
end
end PySem
namespace TL
open PySem PySem.Spec PyProof.Rows L2
/-! ### enumerate over a tuple -/
def Itet (K : Fg) (a : Addr) : It :=
  ⟨fun i H => ∃ (xs : List V) (x : V), SqT K H a xs ∧ xs[i]? = some x, fun i H v H' => ∃ T x, v = .ref T ∧ H T = none ∧ H' = upd H T (.tup [.int (i : Nat), x]) ∧ ∀ xs, SqT K H a xs → xs[i]? = some x, fun i H => ∃ xs : List V, SqT K H a xs ∧ xs.length ≤ i⟩
theorem turn_enumT {P : Program} {w : World} {K : Fg} {elts : List Expr} {kk : Nat} {tpos : Pos} (a e it : Addr) :
    Turn P w K (.Tuple elts kk tpos) (Itet K a) [e, it] e (fun i h => (∃ old, IsEnum h e it ((i : Nat) : Int) old) ∧ h.IsTupleIter it a i ∧ e ≠ it ∧ a ≠ it ∧ a ≠ e) where
  mem := by simp
  obj := fun i h st b hb => by
    obtain ⟨⟨old, he⟩, ⟨o, ho, hc, hd⟩, _⟩ := st
    have e' : b = e ∨ b = it := by simpa using hb
    rcases e' with z | z
    · rw [z]; exact ⟨_, he, fun v q => nomatch q⟩
    · rw [z]; exact ⟨o, ho, fun v q => by rw [hd] at q; cases q⟩
  keep := fun i h h' st k => let ⟨⟨old, he⟩, hi, hne⟩ := st; ⟨⟨old, k e (by simp) _ he⟩, hi.at fun o q => k it (by simp) o q, hne⟩
  item := by
    intro X hP hw hK hc i pins s σ H E I hf st hg
    subst hP hw hK
    obtain ⟨⟨old, he⟩, hit, hne, hai, hae⟩ := st
    obtain ⟨xs, x, hq, hx⟩ := hg
    obtain ⟨its, rv, p, hz⟩ := I.tuple hq
    obtain ⟨u, hu, ru⟩ := rv.get hx
    have hel : e < s.heap.objs.size := Heap.lt_size he
    have hil : it < s.heap.objs.size := by obtain ⟨_, q, _⟩ := hit; exact Heap.lt_size q
    have D := Draws.tuple (prog := X.prog) (w := X.w) (A := X.A.in1) (I.ok.hd hc) it a hai its.toArray
    have hlt : i < its.toArray.size := by
      have := (List.getElem?_eq_some_iff.mp hu).1
      simpa using this
    refine wpAny_pyNext_enum_itemD D he ⟨hit, p⟩ hlt hne (by simp [hne, Ne.symm hae]) fun x' h' tk hP ho hst' hT hsz hk => ?_
    have hxu : x' = u := by
      have hP : its.toArray[i]? = some x' := hP
      have hu' : its.toArray[i]? = some u := by simpa using hu
      rw [hu'] at hP
      cases hP; rfl
    subst hxu
    refine ⟨_, rfl, wpAny_letOwnedTupleGo_enum (s := { s with heap := h', toks := tk + 1 }) ho fun h'' he' sb => ?_⟩
    have hT2 : h''.get? s.heap.objs.size = some { cls := .type "tuple", data := .seq #[.int i tk, x'] } := (sb.2 _ (Nat.ne_of_gt hel)).trans hT
    have new : ObjOk X.prog X.w (upd H s.heap.objs.size (.tup [.int (i : Nat), x])) h'' s.heap.objs.size (.tup [.int (i : Nat), x]) :=
      ⟨by show 2 ≤ sizeLine; decide, [.int i tk, x'], .cons ⟨_, rfl⟩ (.cons ru .nil), ⟨_, hT2, rfl, _, rfl⟩⟩
    have I1 : Inv X pins σ (upd H s.heap.objs.size (.tup [.int (i : Nat), x])) { s with heap := h'', toks := tk + 1 } :=
      I.turnedNew (ch := [e, it]) (fun b ob hb q => (sb.2 b (fun z => hb (by simp [z]))).trans (hk b ob (fun z => hb (by simp [z])) (fun z => hb (by simp [z])) q)) hf (Nat.le_refl _) new
    refine ⟨.ref s.heap.objs.size, _, I1, rfl, ⟨_, x, rfl, I.hok.fresh (Nat.le_refl _), rfl, fun ys hy => by rw [I.tuple_inj hy hq]; exact hx⟩, ⟨⟨x', ?_⟩, hst'.1.at fun o q => (sb.2 it (Ne.symm hne)).trans q, hne, hai, hae⟩, fun b hb => ?_⟩
    · have e1 : ((i + 1 : Nat) : Int) = (i : Int) + 1 := by omega
      rw [e1]; exact he'
    · have hb' : b < s.heap.objs.size := by
        have e' : b = e ∨ b = it := by simpa using hb
        rcases e' with z | z
        · rw [z]; exact hel
        · rw [z]; exact hil
      rw [upd_ne (Nat.ne_of_lt hb')]
      exact (hf b hb).1
  done := by
    intro X hP hw hK hc i pins s σ H E I hf st hg
    subst hP hw hK
    obtain ⟨⟨old, he⟩, hit, hne, hai, hae⟩ := st
    obtain ⟨xs, hq, hx⟩ := hg
    obtain ⟨its, rv, p, hz⟩ := I.tuple hq
    obtain ⟨f0, f1, f2, f3, f4, f5⟩ := hf it (by simp)
    have hl := rv.length
    exact PySem.enum_endT (A := X.A) (I.ok.hd hc) he hit p (by simp; omega) fun h' eb => ⟨rfl, I.turned (t' := s.toks) (fun b o hb q => eb b o hb q) f0 f1 f3 f4 f5⟩
  self := fun A i s Q E st h => let ⟨⟨_, he⟩, _⟩ := st; wpAny_pyIter_enum he h
end TL
namespace TL
open PySem PySem.Spec PyProof.Rows L2
section
variable {X : Cx} {a b e o : Expr} {es : List Expr} {pos pos' apos cpos : Pos} {K : Fg}
/-! ### enumerate of a tuple -/
def iEnumT (K : Fg) (ta : TA) : TI := fun σ H R => ta σ H fun vs H1 => ∃ (a : Addr) (xs : List V), vs = [.ref a] ∧ SqT K H1 a xs ∧ R (Itet K a) H1
theorem pi_enumT {ta : TA} {p tpos : Pos} {elts : List Expr} {kk : Nat} (hg : Gl X "enumerate") (hm : X.mg "enumerate" = none) (ha : PA X [e] ta) (hs : starEach [e] X.env = [(false, eval e X.env)] := by rfl) :
    PI X (.Tuple elts kk tpos) (.Call (.Name "enumerate" p) [e] [] pos) (iEnumT X.K ta) := by
  refine ⟨fun pins s σ H R I h => ?_⟩
  refine Call_ (ld_blt I hg hm boot_enumerate (PyProof.Rows.callWith_type1 (thn (ha.run pos pins s σ H _ I h) fun us s1 ⟨vs, H1, I1, r1, q1⟩ => ?_) hs rfl))
  obtain ⟨a, xs, ex, hq, q⟩ := q1
  subst ex
  cases r1 with
  | cons r rr =>
    cases rr
    cases r
    obtain ⟨its, rv, p', hz⟩ := I1.tuple hq
    have al : a < s1.heap.objs.size := by obtain ⟨o, ho, _⟩ := p'; exact Heap.lt_size ho
    refine PySem.enum_begins1 (PySem.begins_tuple a its.toArray) p' fun h' he hit hsz hk => wpAny_pyIter_enum he ?_
    have I2 : Inv X pins σ H1 { s1 with heap := h' } := I1.kept (t' := s1.toks) hk
    refine ⟨s1.heap.objs.size + 1, [s1.heap.objs.size + 1, s1.heap.objs.size], _, _, H1, rfl, I2, turn_enumT a (s1.heap.objs.size + 1) s1.heap.objs.size, ⟨⟨.none, he⟩, ⟨_, hit, rfl, rfl⟩, Nat.succ_ne_self _, Nat.ne_of_lt al, Nat.ne_of_lt (Nat.lt_succ_of_lt al)⟩, fun b hb => ?_, q⟩
    have e' : b = s1.heap.objs.size + 1 ∨ b = s1.heap.objs.size := by simpa using hb
    have hle : s1.heap.objs.size ≤ b := by
      rcases e' with z | z
      · rw [z]; exact Nat.le_add_right _ _
      · rw [z]; exact Nat.le_refl _
    exact I1.fpOk hle (I1.hok.fresh hle)
theorem walks_enuT {B : Bs} {F : Hp} {a : Addr} {vs : List V} {ds : List D} (e : SqT K F a vs) (q : Reps K F vs ds) : Walks K B (Itet K a) F (enuD 0 ds) where
  stop := fun F' Ω H i g x hi => ⟨vs, x.wd.sub.sqT (g.sqT e), by rw [q.length, ← enuD_len 0 ds]; exact hi⟩
  go := fun F' Ω H i g x hi => ⟨vs, vs[i]'(by rw [q.length, ← enuD_len 0 ds]; exact hi), x.wd.sub.sqT (g.sqT e), by
    have : i < vs.length := by rw [q.length, ← enuD_len 0 ds]; exact hi
    simp [this]⟩
  yld := fun F' Ω H i x H1 d g ex hd ⟨T, y, hx, nT, hh, hy⟩ => by
    subst hx hh
    rw [enuD_get] at hd
    cases hz : ds[i]? with
    | none => rw [hz] at hd; cases hd
    | some z =>
      rw [hz] at hd
      cases hd
      obtain ⟨v, hv, rv⟩ := q.get hz
      have := hy vs (ex.wd.sub.sqT (g.sqT e))
      rw [hv] at this
      cases this
      have x2 := Ext.laidF (o := .tup [.int (i : Nat), y]) ex.wd nT
      refine ⟨_, x2, .tup upd_same (.cons ?_ (.cons ((rv.gr g).gr x2.sub) .nil))⟩
      rw [Nat.zero_add]
      exact .int _
def tpD (d : D) (G : List D → Prop) : Prop := match d with
  | .tuple ds => G ds
  | _ => False
theorem vi_enuT {te : TC} {elts : List Expr} {kk : Nat} {tpos p : Pos} (h : VC X e te) (hg : Gl X "enumerate") (hm : X.mg "enumerate" = none) (hs : starEach [e] X.env = [(false, eval e X.env)] := by rfl) :
    VI X (.Tuple elts kk tpos) (.Call (.Name "enumerate" p) [e] [] pos) (fun ρ G => te ρ fun c => fz c fun d => tpD d fun ds => G (enuD 0 ds)) := by
  refine ⟨fun B => pi_imp (pi_enumT hg hm (pa_cons (h.vd.vc.pe B) pa_nil hs) hs) fun σ H R ⟨F, Ω, ρ, G, en, g, k⟩ => ⟨F, Ω, ρ, fun c => ∃ d, c = .sh d ∧ tpD d fun ds => G (enuD 0 ds), en, fz_eq g, fun c v F' Ω' H' A x r o f ⟨d, hd, gd⟩ => ?_⟩⟩
  subst hd
  obtain ⟨r, _⟩ := r
  unfold tpD at gd
  split at gd
  · cases r with
    | tup e q => exact ⟨_, _, rfl, x.wd.sub.sqT (.inl (.inl e)), k _ _ F' Ω' H' x (walks_enuT (.inl (.inl e)) q) gd⟩
  · exact gd.elim
/-! ### min(xs, default=None) -/
def rMinDef (K : Fg) : List V → List V → Hp → VK → Prop := fun vs zs H Q => ∃ (F : Hp) (a : Addr) (xs : List V) (ds : List D), Sub F H ∧ vs = [V.ref a] ∧ zs = [V.non] ∧ SqL K H a xs ∧ Reps K F xs ds ∧ MmOk ds ∧ (ds = [] → Q .non H) ∧ ∀ d dr, ds = d :: dr → ∀ y, Rep K F y (PySem.W.minD d dr) → Q y H
theorem cr_minDef (hu : X.A.units + 64 < cLine) (hc : X.calm = true) : CallRK X (.builtin "min") [Str.ofString "default"] (rMinDef X.K) := by
  intro pins s σ H vs zs us ws Q I r rz ⟨F, a, xs, ds, sub, hv, hz0, hs, q, ok, h0, h⟩
  subst hv hz0
  rw [Vals.ref1 r]
  obtain ⟨u, rfl, ru⟩ := rz.one
  cases ru
  have hd := ok.2.2
  obtain ⟨its, rv, hl, hz⟩ := I.list hs
  obtain ⟨as, hr⟩ := Dp.readsAll I ds xs its (q.dp sub ok.2.1) rv
  refine PySem.W.min_list_default (I.ok.hd hc) hl.isList hr ok.1 (by omega) (fun e h' tk hk => ⟨.non, H, I.kept (t' := tk) fun b o hb => hk b o hb, rfl, h0 e⟩) fun d dr i v h' tk bs e hi hr' hk => ?_
  subst e
  exact mm_out I sub rv q ok (minD_mem d dr) (h d dr rfl) (by simpa using hi) hr' hk
def minO : List D → D
  | [] => .none
  | d :: ds => PySem.W.minD d ds
def cMinDef (c : C) (G : CK) : Prop := ∃ ds, lsC c = some ds ∧ MmOk ds ∧ G (.sh (minO ds))
theorem vc_minDef {p kp cp : Pos} {j : Nat} {ta : TC} (hu : X.A.units + 64 < cLine) (ha : SE X a ta) (hg : Gl X "min") (hm : X.mg "min" = none) (hc : X.calm = true := by rfl)
    (he : backTo pos (starEach [a] X.env) = (false, eval a X.env) :: backTo pos (starEach [] X.env) := by rfl) (hs : starEach [a] X.env = (false, eval a X.env) :: starEach [] X.env := by rfl) (hpl : (backTo pos (starEach [a] X.env)).any (·.1) = false := by rfl)
    (hall : (backToKw pos (keywordEach [⟨some (Str.ofString "default"), .Constant .none j cp, kp⟩] X.env)).all (·.1.isSome) = true := by rfl) (hnone : (backToKw pos (keywordEach [⟨some (Str.ofString "default"), .Constant .none j cp, kp⟩] X.env)).any (·.1.isNone) = false := by rfl) (hks : (backToKw pos (keywordEach [⟨some (Str.ofString "default"), .Constant .none j cp, kp⟩] X.env)).filterMap (·.1) = [Str.ofString "default"] := by rfl) :
    VC X (.Call (.Name "min" p) [a] [⟨some (Str.ofString "default"), .Constant .none j cp, kp⟩] pos) (cUn cMinDef ta) := by
  refine ⟨fun B => pe_imp (pe_callBK (cr_minDef hu hc) hg hm (by decide +kernel) (pa_cons (ha.pe B) pa_nil hs) (pk_cons (te := tC .non) (t := tNil) pe_non pk_nil) (by decide) (by decide) he hpl hall hnone hks) fun σ H Q ⟨F, Ω, ρ, G, en, g, k⟩ => ?_⟩
  refine ⟨F, Ω, ρ, _, en, g, fun c v F1 Ω1 H1 A1 x1 r1 o1 ⟨ds, hl, ok, gG⟩ => ?_⟩
  obtain ⟨a', vs, rfl, ea, qa⟩ := lsC_get x1.wd r1 hl
  refine ⟨F1, a', vs, ds, x1.wd.sub, rfl, rfl, .inl (.inl ea), qa, ok, fun e => ?_, fun d dr e y ry => ?_⟩
  · subst e
    exact (k.ext x1).sh (Ext.refl x1.wd) .non gG
  · subst e
    exact (k.ext x1).sh (Ext.refl x1.wd) ry gG
/-! ### x.extend(e) -/
theorem vs_extend (i : Nat) {te : TC} (hv : PE X o (tVar i)) (he : SE X e te) (hbase : attributeBase o "extend" X.env (eval o X.env) = eval o X.env := by rfl)
    (h2 : ((backTo cpos (starEach [e] X.env)).all (fun x => !x.fst) && ((backToKw cpos (keywordEach [] X.env)).all fun x => x.fst.isSome) && decide ([e].length + ([] : List Keyword).length + (if ([] : List Keyword).isEmpty = true then 0 else 1) < 30)) = true := by rfl)
    (hl : (apos.endLine == cpos.line) = true := by rfl) (hs : starEach [e] X.env = (false, eval e X.env) :: starEach [] X.env := by rfl) (hx : swapsWith (.Call (.Attribute o "extend" apos) [e] [] cpos) none pos.line X.env = pure false := by rfl) :
    VS X (.Expr (.Call (.Attribute o "extend" apos) [e] [] cpos) pos) (fun d ρ => olAt ρ i fun _ => te ρ fun c => ∃ es, lsC c = some es ∧ olAt ρ i fun ds => ds.length + es.length ≤ sizeLine ∧ d.nx (ρ.set i (.ol (ds ++ es)))) := by
  refine ⟨fun B => ps_imp (ps_expr (pe_bm PySem.F.plainAttrs_list PySem.F.slot_list_extend PySem.F.type_list_extend mt_extend hv (pa_cons (he.pe B) pa_nil hs) hbase h2 hl hs) hx) fun De σ H ⟨F, Ω, ρ, d, en, g, k⟩ => ?_⟩
  obtain ⟨ds0, hc, g⟩ := olAt_get g
  obtain ⟨a, vs, hσ, ha, q, fin⟩ := en.own1 hc
  refine ⟨.ref a, hσ, .inl ⟨rfl, vs, .inl (.inl ha)⟩, F, Ω, ρ, _, en, g, fun c v F' Ω' H' A x r ow ⟨es, hes, gy⟩ => ?_⟩
  obtain ⟨ds, hc', hlen, g2⟩ := olAt_get gy
  obtain ⟨a', vs', hσ', ha', q', fin'⟩ := (en.ext x).own1 hc'
  rw [hσ] at hσ'
  cases hσ'
  obtain ⟨b, us, rfl, hb, qb⟩ := lsC_get x.wd r hes
  exact ⟨a, b, vs', us, rfl, rfl, ha', hb, by rw [q'.length, qb.length]; exact hlen, k.nx σ F' Ω' _ _ x.sub (fin' (vs' ++ us) (ds ++ es) (q'.append qb)) g2⟩
/-! ### a number of the module's -/
theorem vc_gint {x : Str} {n : Int} (h : ∃ t, X.mg x = some (.int n t)) (hg : Gl X x := by rfl) (hd : (x == ("__debug__" : Str)) = false := by decide) : VC X (.Name x pos) (kC (.int n)) :=
  let ⟨t, hm⟩ := h; vc_const (pe_glob (v := .int n) hg hm ⟨t, rfl⟩ hd) fun F => .int n
/-! ### str of a number or of a text -/
def cStrA (c : C) (G : CK) : Prop := match c with
  | .sh (.int i) => i.natAbs.log2 < 1920 ∧ G (.sh (.str (toString i)))
  | .sh (.str x) => G (.sh (.str x))
  | _ => False
theorem cr_strA : CallR X (.type "str") (fun xs H Q => (∃ i, xs = [V.int i] ∧ i.natAbs.log2 < 1920 ∧ Q (.str (toString i)) H) ∨ ∃ a, xs = [V.str a] ∧ Q (.str a) H) := by
  intro pins s σ H vs us Q I r h
  rcases h with h | h
  · exact call_str_int pins s σ H vs us Q I r h
  · exact SkE.call_str_str pins s σ H vs us Q I r h
theorem vc_strA {p : Pos} {ta : TC} (ha : SE X a ta) (hg : Gl X "str") (hm : X.mg "str" = none) (hs : starEach [a] X.env = (false, eval a X.env) :: starEach [] X.env := by rfl) : VC X (.Call (.Name "str" p) [a] [] pos) (cUn cStrA ta) :=
  vc_t1 cr_strA (fun F Ω H c v A G Q w r h k => by
    unfold cStrA at h
    split at h
    · rename_i i
      obtain ⟨r, _⟩ := r
      cases r
      exact .inl ⟨i, rfl, h.1, k.sh (Ext.refl w) (.str _) h.2⟩
    · rename_i x
      obtain ⟨r, _⟩ := r
      cases r
      exact .inr ⟨x, rfl, k.sh (Ext.refl w) (.str _) h⟩
    · exact h.elim) hg hm (by decide +kernel) ha hs
end
end TL
namespace TL
open PySem PySem.Spec PyProof.Rows L2
/-! ### is True, is False of anything -/
def rIsBA : R2 := fun x y H Q => ∃ b : Bool, y = .bl b ∧ (x = .non ∨ (∃ c, x = .bl c) ∨ (∃ i, x = .int i) ∨ (∃ t, x = .str t) ∨ (∃ a, x = .ref a)) ∧ Q (.bl (decide (x = .bl b))) H
theorem op_isBA {X : Cx} : OpR X (compareOp .Is) rIsBA := by
  intro pins s σ H x y v u Q I rx ry h
  obtain ⟨b, rfl, hx, q⟩ := h
  cases (show u = Value.bool b from ry)
  rcases hx with rfl | ⟨c, rfl⟩ | ⟨i, rfl⟩ | ⟨t, rfl⟩ | ⟨a, rfl⟩
  · cases (show v = Value.none from rx)
    exact wpAny_is_other rfl (fun z => nomatch z) ⟨.bl false, H, I, rfl, by simpa using q⟩
  · cases (show v = Value.bool c from rx)
    by_cases e : c = b
    · subst e
      exact wpAny_is_self rfl ⟨.bl true, H, I, rfl, by simpa using q⟩
    · exact wpAny_is_other rfl (fun z => e (Value.bool.inj z)) ⟨.bl false, H, I, rfl, by simpa [e] using q⟩
  · obtain ⟨k, rfl⟩ := rx
    exact wpAny_is_other rfl (fun z => nomatch z) ⟨.bl false, H, I, rfl, by simpa using q⟩
  · obtain ⟨k, rfl⟩ := rx
    exact wpAny_is_other rfl (fun z => nomatch z) ⟨.bl false, H, I, rfl, by simpa using q⟩
  · cases (show v = Value.ref a from rx)
    exact wpAny_is_other rfl (fun z => nomatch z) ⟨.bl false, H, I, rfl, by simpa using q⟩
def isBl (d : D) (b : Bool) : Bool := match d with
  | .bool a => decide (a = b)
  | _ => false
def cIsBA (x y : C) (G : CK) : Prop := match x, y with
  | .sh d, .sh (.bool b) => G (.sh (.bool (isBl d b)))
  | _, _ => False
theorem ok_isBA {K : Fg} : OkBin K rIsBA cIsBA := fun F Ω H c1 c2 v1 v2 A1 A2 G Q w r1 r2 g k => by
  unfold cIsBA at g
  split at g
  · rename_i d b
    obtain ⟨r1, _⟩ := r1
    obtain ⟨r2, _⟩ := r2
    cases r2
    cases r1 with
    | non => exact ⟨_, rfl, .inl rfl, k.sh (Ext.refl w) (.bl _) (by simpa [isBl] using g)⟩
    | bl c => exact ⟨_, rfl, .inr (.inl ⟨_, rfl⟩), k.sh (Ext.refl w) (.bl _) (by simpa [isBl] using g)⟩
    | int i => exact ⟨_, rfl, .inr (.inr (.inl ⟨_, rfl⟩)), k.sh (Ext.refl w) (.bl _) (by simpa [isBl] using g)⟩
    | str t => exact ⟨_, rfl, .inr (.inr (.inr (.inl ⟨_, rfl⟩))), k.sh (Ext.refl w) (.bl _) (by simpa [isBl] using g)⟩
    | lst e r => exact ⟨_, rfl, .inr (.inr (.inr (.inr ⟨_, rfl⟩))), k.sh (Ext.refl w) (.bl _) (by simpa [isBl] using g)⟩
    | tup e r => exact ⟨_, rfl, .inr (.inr (.inr (.inr ⟨_, rfl⟩))), k.sh (Ext.refl w) (.bl _) (by simpa [isBl] using g)⟩
    | dK e r => exact ⟨_, rfl, .inr (.inr (.inr (.inr ⟨_, rfl⟩))), k.sh (Ext.refl w) (.bl _) (by simpa [isBl] using g)⟩
    | dT e n r => exact ⟨_, rfl, .inr (.inr (.inr (.inr ⟨_, rfl⟩))), k.sh (Ext.refl w) (.bl _) (by simpa [isBl] using g)⟩
  · exact g.elim
end TL
namespace TL
open PySem PySem.Spec PyProof.Rows L2
section
variable {X : Cx} {a b e o elt iter tg : Expr} {es ifs : List Expr} {pos pos' : Pos} {K : Fg} {st : Stmt} {t u : TR}
/-! ### dicts whose keys are tuples of ints and texts -/
theorem reps_kD {F : Hp} : ∀ ks : List Key, Reps K F (ks.map kV) (ks.map kD)
  | [] => .nil
  | .inl i :: r => .cons (.int i) (reps_kD r)
  | .inr x :: r => .cons (.str x) (reps_kD r)
theorem kD_v {F : Hp} {k : Key} {v : V} (r : Rep K F v (kD k)) : v = kV k := by
  cases k with
  | inl i => cases r; rfl
  | inr i => cases r; rfl
theorem reps_kD_v {F : Hp} : ∀ {ks : List Key} {vs : List V}, Reps K F vs (ks.map kD) → vs = ks.map kV
  | [], _, .nil => rfl
  | k :: r, _, .cons h t => by rw [kD_v h, reps_kD_v t]; rfl
theorem tk_v {F H : Hp} {Ω : Om} {v : V} {A : List Addr} {k : List Key} (w : Wd F Ω H) (r : RC K F Ω H (.sh (kTD k)) v A) : ∃ p, v = .ref p ∧ H p = some (.tup (k.map kV)) := by
  obtain ⟨r, _⟩ := r
  have : ∀ d, d = kTD k → Rep K F v d → ∃ p, v = .ref p ∧ H p = some (.tup (k.map kV)) := by
    intro d hd r
    cases r with
    | tup e q =>
      cases hd
      rw [reps_kD_v q] at e
      exact ⟨_, rfl, w.sub.tup e⟩
    | _ => cases hd
  exact this _ rfl r
theorem kDs_inj : ∀ {a b : List Key}, a.map kD = b.map kD → a = b
  | [], [], _ => rfl
  | [], _ :: _, h => by cases h
  | _ :: _, [], h => by cases h
  | x :: a, y :: b, h => by
    rw [List.map_cons, List.map_cons] at h
    injection h with h1 h2
    rw [kD_inj h1, kDs_inj h2]
theorem kTD_inj {a b : List Key} (h : kTD a = kTD b) : a = b := by
  unfold kTD at h
  injection h with h
  exact kDs_inj h
theorem RepT.rkv {F : Hp} : ∀ {ks : List (List Key × V)} {kvs : List (List Key × D)}, RepT K F ks (kvs.map fun p => (kTD p.1, p.2)) → RKV K F ks kvs
  | [], [], _ => .nil
  | [], _ :: _, h => by cases h
  | _ :: _, [], h => by cases h
  | (k, v) :: ks, (k', d) :: kvs, h => by
    have : ∀ x y, x = (k, v) :: ks → y = (kTD k', d) :: kvs.map (fun p => (kTD p.1, p.2)) → RepT K F x y → RKV K F ((k, v) :: ks) ((k', d) :: kvs) := by
      intro x y ex ey hh
      cases hh with
      | nil => cases ex
      | cons r t =>
        injection ex with e1 e2
        injection e1 with e3 e4
        injection ey with e5 e6
        injection e5 with e7 e8
        subst e3 e4 e2 e8
        have := kTD_inj e7
        subst this
        rw [e6] at t
        exact .cons r (RepT.rkv t)
    exact this _ _ rfl rfl h
/-- such a dict: one's own, or frozen with a pair -/
def kvT (c : C) (kvs : List (List Key × D)) : Prop := c = .odT kvs ∨ (kvs ≠ [] ∧ c = .sh (.dict (kvs.map fun p => (kTD p.1, p.2))))
theorem kvT_get {F : Hp} {Ω : Om} {H : Hp} {c : C} {v : V} {A : List Addr} {kvs : List (List Key × D)} (w : Wd F Ω H) (r : RC K F Ω H c v A) (h : kvT c kvs) : ∃ a ks, v = .ref a ∧ Rd H a (.dT ks) ∧ RKV K F ks kvs := by
  rcases h with rfl | ⟨hn, rfl⟩
  · obtain ⟨a, ks, rfl, _, ha, q⟩ := r
    exact ⟨a, ks, rfl, Rd.of ha, q⟩
  · obtain ⟨r, _⟩ := r
    have : ∀ d, d = PyData.dict (kvs.map fun p => (kTD p.1, p.2)) → Rep K F v d → ∃ a ks, v = .ref a ∧ Rd H a (.dT ks) ∧ RKV K F ks kvs := by
      intro d hd r
      cases r with
      | dT e n q => cases hd; exact ⟨_, _, rfl, w.sub.rd e, q.rkv⟩
      | dK e q =>
        cases hd
        obtain ⟨p, rr, rfl⟩ := List.exists_cons_of_ne_nil hn
        have key : ∀ ks, RepK K F ks ((p :: rr).map fun p => (kTD p.1, p.2)) → False := fun ks q => by
          have e1 := q.keys
          cases ks with
          | nil => simp at e1
          | cons k0 ks =>
            simp only [List.map_cons, List.cons.injEq] at e1
            exact kD_kTD e1.1.symm
        exact (key _ q).elim
      | _ => cases hd
    exact this _ rfl r
/-- d[k] -/
def cTGet (x y : C) (G : CK) : Prop := ∃ kvs k d, kvT x kvs ∧ y = .sh (kTD k) ∧ valD kvs k = some d ∧ G (.sh d)
theorem ok_tget : OkBin K (fun x y H Q => ∃ a v, x = .ref a ∧ DGet H a y (some v) ∧ Q v H) cTGet := by
  intro F Ω H c1 c2 v1 v2 A1 A2 G Q w r1 r2 ⟨kvs, k, d, hk, hy, hd, g⟩ fin
  obtain ⟨a, ks, rfl, rd, q⟩ := kvT_get w r1 hk
  subst hy
  obtain ⟨p, rfl, hp⟩ := tk_v w r2
  rcases q.val k with ⟨_, h2⟩ | ⟨u, d', h1, h2, h3⟩
  · rw [h2] at hd; cases hd
  · rw [h2] at hd; cases hd
    exact ⟨a, u, rfl, .inr ⟨ks, k, p, rd, rfl, hp, h1.symm⟩, fin.sh (Ext.refl w) h3 g⟩
theorem vc_tget {ta tb : TC} (hu : X.A.units + 1 < cLine) (ha : SE X a ta) (hb : SE X b tb) (hs : NoSl b := by exact fun _ _ => rfl) : VC X (.Subscript a b pos) (cBin cTGet ta tb) :=
  ⟨fun B => pe_imp (pe_dget hu (ha.pe B) (hb.pe B) hs) fun σ H Q h => up_bin ok_tget h⟩
/-- k in d -/
def cTIn (f : Bool → Bool) (x y : C) (G : CK) : Prop := ∃ kvs k, kvT y kvs ∧ x = .sh (kTD k) ∧ G (.sh (.bool (f (valD kvs k).isSome)))
theorem ok_tin (f : Bool → Bool) : OkBin K (fun y x H Q => ∃ a o, x = .ref a ∧ DGet H a y o ∧ Q (.bl (f o.isSome)) H) (cTIn f) := by
  intro F Ω H c1 c2 v1 v2 A1 A2 G Q w r1 r2 ⟨kvs, k, hk, hy, g⟩ fin
  obtain ⟨a, ks, rfl, rd, q⟩ := kvT_get w r2 hk
  subst hy
  obtain ⟨p, rfl, hp⟩ := tk_v w r1
  refine ⟨a, valV ks k, rfl, .inr ⟨ks, k, p, rd, rfl, hp, rfl⟩, ?_⟩
  have e : (valV ks k).isSome = (valD kvs k).isSome := by
    rcases q.val k with ⟨h1, h2⟩ | ⟨u, d', h1, h2, h3⟩
    · rw [h1, h2]; rfl
    · rw [h1, h2]; rfl
  rw [e]
  exact fin.sh (Ext.refl w) (.bl _) g
theorem vc_tin {ta tb : TC} (hu : X.A.units + 1 < cLine) (ha : SE X a ta) (hb : SE X b tb) (hm : behindInMarks .In b = false := by rfl) : VC X (.Compare a [.In] [b] pos) (cBin (cTIn id) ta tb) :=
  vc_pc (fun B => pc_imp (pc_din hu (ha.pe B) (hb.pe B)) fun σ H Q h => up_bin (ok_tin id) h) hm
theorem vb_tin {ta tb : TC} (hu : X.A.units + 1 < cLine) (ha : SE X a ta) (hb : SE X b tb) (hm : behindInMarks .In b = false := by rfl) : VB X (.Compare a [.In] [b] pos) (fun ρ G => cBin (cTIn id) ta tb ρ fun c => blC c G) :=
  vb_pc (fun B => pc_imp (pc_din hu (ha.pe B) (hb.pe B)) fun σ H Q h => up_bin (ok_tin id) h) hm
theorem vc_tnotin {ta tb : TC} (hu : X.A.units + 1 < cLine) (ha : SE X a ta) (hb : SE X b tb) (hm : behindInMarks .NotIn b = false := by rfl) : VC X (.Compare a [.NotIn] [b] pos) (cBin (cTIn not) ta tb) :=
  vc_pc (fun B => pc_imp (pc_dnotin hu (ha.pe B) (hb.pe B)) fun σ H Q h => up_bin (ok_tin not) h) hm
theorem vb_tnotin {ta tb : TC} (hu : X.A.units + 1 < cLine) (ha : SE X a ta) (hb : SE X b tb) (hm : behindInMarks .NotIn b = false := by rfl) : VB X (.Compare a [.NotIn] [b] pos) (fun ρ G => cBin (cTIn not) ta tb ρ fun c => blC c G) :=
  vb_pc (fun B => pc_imp (pc_dnotin hu (ha.pe B) (hb.pe B)) fun σ H Q h => up_bin (ok_tin not) h) hm
/-- d[k] = v -/
theorem En.own1T {B : Bs} {F : Hp} {Ω : Om} {H : Hp} {σ : L2.St} {ρ : List C} (e : En K B F Ω H σ ρ) {i : Nat} {kvs : List (List Key × D)} (hc : ρ[i]? = some (.odT kvs)) :
    ∃ a ks, σ[i]? = some (some (.ref a)) ∧ H a = some (.dT ks) ∧ RKV K F ks kvs ∧ ∀ ks' kvs', RKV K F ks' kvs' → En K B F Ω (upd H a (.dT ks')) σ (ρ.set i (.odT kvs')) := by
  obtain ⟨As, h1, h2, h3⟩ := e.own
  obtain ⟨v0, hv0, r0⟩ := h1 i _ hc (by simp)
  obtain ⟨a, vs, rfl, hA, ha, q⟩ := r0
  have ia := h2 i a (by rw [hA]; exact List.mem_cons_self)
  refine ⟨a, vs, hv0, ha, q, fun vs' ds' r' => ?_⟩
  obtain ⟨v2, A2, hv2, r2, ow2, fin2⟩ := e.chg hc (c' := .odT ds') (by simp)
  rw [hv0] at hv2
  cases hv2
  obtain ⟨a2, vs2, e2, hA2, ha2, q2⟩ := r2
  cases e2
  refine fin2 F Ω _ [a] (e.ex.put ia.2.2.2 ia.1 ia.2.1) (Gr.refl _) (fun b hb hh => ⟨rfl, rfl, fun o h _ => ?_⟩) (fun _ _ h => h) ⟨a, vs', rfl, rfl, upd_same, r'⟩ (fun c m => by rw [List.mem_singleton.mp m]; exact ⟨ia.1, ia.2.1⟩) (fun c m => .inl (by rw [hA2]; exact m))
  rw [upd_ne (fun z => hb (by rw [hA2, z]; exact List.mem_cons_self))]
  exact h
def otAt (ρ : List C) (i : Nat) (G : List (List Key × D) → Prop) : Prop := match ρ[i]? with
  | some (.odT ds) => G ds
  | _ => False
theorem otAt_get {ρ : List C} {i : Nat} {G : List (List Key × D) → Prop} (h : otAt ρ i G) : ∃ ds, ρ[i]? = some (.odT ds) ∧ G ds := by
  unfold otAt at h
  split at h
  · exact ⟨_, by assumption, h⟩
  · exact h.elim
theorem vs_dputT (i : Nat) (hu : X.A.units + 1 < cLine) {te tk : TC} {k v : Expr} (hv : PE X o (tVar i)) (hk : SE X k tk) (he : VC X v te) (hs : swapsWith v (some (.Subscript o k pos')) pos.line X.env = pure false := by rfl) :
    VS X (.Assign [.Subscript o k pos'] v pos) (fun d ρ => otAt ρ i fun _ => te ρ fun c => fz c fun y => tk ρ fun c2 => ∃ key, c2 = .sh (kTD key) ∧ otAt ρ i fun kvs => kvs.length < sizeLine ∧ d.nx (ρ.set i (.odT (putD kvs key y)))) := by
  refine ⟨fun B => ps_imp (ps_dput hu hv (hk.pe B) (he.vd.vc.pe B) hs) fun De σ H ⟨F, Ω, ρ, d, en, g, kk⟩ => ?_⟩
  obtain ⟨kvs0, hc0, g⟩ := otAt_get g
  refine ⟨F, Ω, ρ, fun c => ∃ y, c = .sh y ∧ tk ρ fun c2 => ∃ key, c2 = .sh (kTD key) ∧ otAt ρ i fun kvs => kvs.length < sizeLine ∧ d.nx (ρ.set i (.odT (putD kvs key y))), en, ?_, fun c v F' Ω' H' A x r ow f ⟨y, hy, gy⟩ => ?_⟩
  · have m : (fun c => fz c fun x => ∃ x', C.sh x = .sh x' ∧ tk ρ fun c2 => ∃ key, c2 = .sh (kTD key) ∧ otAt ρ i fun kvs => kvs.length < sizeLine ∧ d.nx (ρ.set i (.odT (putD kvs key x')))) = fun c => fz c fun y => tk ρ fun c2 => ∃ key, c2 = .sh (kTD key) ∧ otAt ρ i fun kvs => kvs.length < sizeLine ∧ d.nx (ρ.set i (.odT (putD kvs key y))) := by
      funext c
      cases c <;> simp [fz]
    show te ρ fun c => fz c fun x => ∃ x', C.sh x = .sh x' ∧ _
    rw [m]
    exact g
  · subst hy
    have en' := en.ext x
    obtain ⟨a, ks, hσ, ha, q, _⟩ := en'.own1T hc0
    refine ⟨.ref a, hσ, F', Ω', ρ, _, en', gy, fun c2 v2 F2 Ω2 H2 A2 x2 r2 ow2 g2 => ?_⟩
    obtain ⟨key, hkey, g2⟩ := g2
    obtain ⟨kvs', hc', hlen, g3⟩ := otAt_get g2
    obtain ⟨a', ks', hσ', ha', q', fin⟩ := (en'.ext x2).own1T hc'
    rw [hσ] at hσ'
    cases hσ'
    subst hkey
    obtain ⟨p, rfl, hp⟩ := tk_v (en'.ext x2).wd r2
    exact ⟨a, _, rfl, DPut.t ha' hp (by rw [q'.length]; exact hlen), kk.nx σ F2 Ω2 _ _ (x.sub.trans x2.sub) (fin _ _ (q'.put key (r.1.gr x2.sub))) g3⟩
/-! ### len of any dict -/
def cLenA (c : C) (G : CK) : Prop := match c with
  | .od kvs => G (.sh (.int (kvs.length : Nat)))
  | .odT kvs => G (.sh (.int (kvs.length : Nat)))
  | .sh (.dict ds) => G (.sh (.int (ds.length : Nat)))
  | _ => False
theorem cr_lenA : CallR X (.builtin "len") (fun xs H Q => ∃ a, xs = [V.ref a] ∧ ((∃ kvs, Rd H a (.dK kvs) ∧ Q (.int kvs.length) H) ∨ ∃ kvs, Rd H a (.dT kvs) ∧ Q (.int kvs.length) H)) := by
  intro pins s σ H xs us Q I r ⟨a, ex, h⟩
  rcases h with ⟨kvs, hd, q⟩ | ⟨kvs, hd, q⟩
  · exact cr_lenD pins s σ H xs us Q I r ⟨a, kvs, ex, hd, q⟩
  · subst ex
    rw [Vals.ref1 r]
    obtain ⟨z, hd', ys, rel, dd⟩ := dt_rd I.hok hd
    have hl : kvs.length = ys.length := Paired.length rel
    refine call_len_dictH hd' dd (by rw [← hl]; rw [sizeLine_eq] at z; omega) ?_
    rw [← hl]
    exact ⟨.int ((kvs.length : Nat) : Int), H, I.tok _, ⟨_, rfl⟩, q⟩
theorem vc_lenA {p : Pos} {ta : TC} (ha : SE X a ta) (hg : Gl X "len") (hm : X.mg "len" = none) (hs : starEach [a] X.env = (false, eval a X.env) :: starEach [] X.env := by rfl) : VC X (.Call (.Name "len" p) [a] [] pos) (cUn cLenA ta) :=
  vc_b1 cr_lenA (fun F Ω H c v A G Q w r g k => by
    cases c with
    | od kvs =>
      obtain ⟨a, ks, rfl, _, ha, q⟩ := r
      exact ⟨a, rfl, .inl ⟨ks, Rd.of ha, k.sh (Ext.refl w) (.int _) (by rw [q.length]; exact g)⟩⟩
    | odT kvs =>
      obtain ⟨a, ks, rfl, _, ha, q⟩ := r
      exact ⟨a, rfl, .inr ⟨ks, Rd.of ha, k.sh (Ext.refl w) (.int _) (by rw [q.length]; exact g)⟩⟩
    | sh d =>
      cases d with
      | dict ds =>
        obtain ⟨r, _⟩ := r
        cases r with
        | dK e q => exact ⟨_, rfl, .inl ⟨_, w.sub.rd e, k.sh (Ext.refl w) (.int _) (by rw [q.length]; exact g)⟩⟩
        | dT e n q => exact ⟨_, rfl, .inr ⟨_, w.sub.rd e, k.sh (Ext.refl w) (.int _) (by rw [q.length]; exact g)⟩⟩
      | _ => exact g.elim
    | _ => exact g.elim) hg hm (by decide +kernel) ha hs
end
end TL
namespace TL
open PySem PySem.Spec PyProof.Rows L2
section
variable {X : Cx} {a b e o elt iter tg kx vx : Expr} {es ifs : List Expr} {pos pos' : Pos} {K : Fg} {st : Stmt} {t u : TR}
/-! ### walking the keys of any frozen dict -/
theorem RepT.keys {F : Hp} : ∀ {ks : List (List Key × V)} {ds : List (D × D)}, RepT K F ks ds → ds.map (·.1) = (ks.map (·.1)).map kTD
  | _, _, .nil => rfl
  | _, _, .cons r t => by simp [t.keys]
def dicJ (a : Addr) (od : Obj) : HO → It → Prop
  | .dK kvs, J => J = Itk a od kvs
  | .dT kvs, J => J = Itkt a od kvs
  | _, _ => False
theorem iK_of {a : Addr} {od : Obj} {u : HO} {J : It} {H : Hp} {R : It → Hp → Prop} (hu : dicJ a od u J) (hH : H a = some (.frz od u)) (hR : R J H) : (∃ kvs, H a = some (.frz od (.dK kvs)) ∧ R (Itk a od kvs) H) ∨ ∃ kvs, H a = some (.frz od (.dT kvs)) ∧ R (Itkt a od kvs) H := by
  cases u with
  | dK kvs => cases hu; exact .inl ⟨kvs, hH, hR⟩
  | dT kvs => cases hu; exact .inr ⟨kvs, hH, hR⟩
  | _ => exact hu.elim
theorem iKeys_of {i : Nat} {σ : L2.St} {a : Addr} {od : Obj} {u : HO} {J : It} {H : Hp} {R : It → Hp → Prop} (hσ : σ[i]? = some (some (.ref a))) (hu : dicJ a od u J) (hH : H a = some (.frz od u)) (hR : R J H) : iKeys (tVar i) σ H R := ⟨.ref a, hσ, a, od, rfl, iK_of hu hH hR⟩
theorem walks_keysT {B : Bs} {F : Hp} {a : Addr} {od : Obj} {kvs : List (List Key × V)} {ds : List (D × D)} (fa : F a = some (.dT kvs)) (q : RepT K F kvs ds) (hB : B.H a = some (.frz od (.dT kvs))) (oB : B.Ω a = none) : Walks K B (Itkt a od kvs) F (ds.map (·.1)) where
  stop := fun F' Ω H i g x h => ⟨x.keep a _ hB oB, by
    have := congrArg List.length q.keys
    simp only [List.length_map] at this h ⊢
    omega⟩
  go := fun F' Ω H i g x h => ⟨x.keep a _ hB oB, by
    have := congrArg List.length q.keys
    simp only [List.length_map] at this h ⊢
    omega⟩
  yld := fun F' Ω H i x H1 d g y hd hy => by
    obtain ⟨rfl, k, v, p, hk, rfl, hp⟩ := hy
    refine ⟨F', Ext.refl y.wd, ?_⟩
    rw [q.keys, List.getElem?_map, List.getElem?_map, hk] at hd
    cases hd
    exact .tup (y.wd.tp _ _ hp) (reps_kD k)
/-- where a frozen dict stands -/
theorem dic_any {B : Bs} {F : Hp} {Ω : Om} {H : Hp} {σ : L2.St} {ρ : List C} {i : Nat} {ds : List (D × D)} (e : En K B F Ω H σ ρ) (hc : ρ[i]? = some (.sh (.dict ds))) :
    ∃ a u, σ[i]? = some (some (.ref a)) ∧ F a = some u ∧ isDic u = true ∧ Mut (some u) ∧ (H a = some u ∨ ∃ od, H a = some (.frz od u)) ∧ ∀ od, ∃ J, dicJ a od u J ∧ ∀ B1 : Bs, B1.H a = some (.frz od u) → B1.Ω a = none → Walks K B1 J F (ds.map (·.1)) := by
  obtain ⟨As, h1, h2, h3⟩ := e.own
  obtain ⟨v, hv, r, _⟩ := h1 i _ hc (by simp)
  cases r with
  | dK fa q =>
    refine ⟨_, _, hv, fa, rfl, trivial, e.wd.sub.rd fa, fun od => ⟨_, rfl, fun B1 h1 h2 => walks_keys fa q h1 h2⟩⟩
  | dT fa n q =>
    refine ⟨_, _, hv, fa, rfl, trivial, e.wd.sub.rd fa, fun od => ⟨_, rfl, fun B1 h1 h2 => walks_keysT fa q h1 h2⟩⟩
def kyA (i : Nat) : TDs := fun ρ G => ∃ ds, ρ[i]? = some (.sh (.dict ds)) ∧ G (ds.map (·.1))
/-- for x in d, d a name -/
theorem vs_forA (i : Nat) {body : List Stmt} {g : VG'} {tb : TR} {S : List Nat} (hv : PE X iter (tVar i)) (hg : VG X tg S g) (hb : VSs X body tb) (hp : PassesOwn (model X.prog X.w) X.A X.env X.xe := by exact PassesOwn.never) (hc : X.calm = true := by rfl) (hs : ∀ x, foldedSetIterable iter X.env x = pure x := by intro _; rfl) :
    VS X (.For tg iter body [] pos) (sFor (kyA i) g tb) := by
  have main : ∀ (B : Bs) (a : Addr) (od : Obj) (u : HO) (J : It) (De : Ends) (σ : L2.St) (H : Hp) (F : Hp) (Ω : Om) (ρ : List C) (d : DD) (ds : List (D × D)), En X.K B F Ω H σ ρ → B.H a = some (.frz od u) → B.Ω a = none → σ[i]? = some (some (.ref a)) → F a = some u → dicJ a od u J → Walks X.K B J F (ds.map (·.1)) →
      (∃ Iv : Nat → List C → Prop, Iv 0 ρ ∧ (∀ i x ρ', (ds.map (·.1))[i]? = some x → Iv i ρ' → g x ρ' fun ρ2 => tb { d with nx := Iv (i + 1), ct := Iv (i + 1), bk := d.nx } ρ2) ∧ ∀ ρ', Iv (ds.map (·.1)).length ρ' → d.nx ρ') → Cont X.K B F d De →
      tFor (iKeys (tVar i)) (upG X.K B S g) (upT X.K B tb) De σ H := by
    intro B a od u J De σ H F Ω ρ d ds en hB oB hσ fa hJ wk ⟨Iv, h0, h1, h2⟩ k
    refine iKeys_of hσ hJ (en.ex.keep a _ hB oB) ?_
    refine ⟨fun i m σ' H' => m = (ds.map (·.1)).length - i ∧ i ≤ (ds.map (·.1)).length ∧ ∃ F' Ω' ρ', Gr F F' ∧ En X.K B F' Ω' H' σ' ρ' ∧ Iv i ρ', ⟨(ds.map (·.1)).length, by simp, Nat.zero_le _, F, Ω, ρ, Gr.refl _, en, h0⟩, ?_⟩
    rintro i m σ' H' ⟨rfl, hi, F', Ω', ρ', gr, en', iv⟩
    by_cases hlt : i < (ds.map (·.1)).length
    · refine .inr ⟨wk.go F' Ω' H' i gr en'.ex hlt, fun σ2 H2 => ∃ F2 Ω2 ρ2, Gr F F2 ∧ En X.K B F2 Ω2 H2 σ2 ρ2 ∧ Iv (i + 1) ρ2, fun σ2 H2 q => ⟨(ds.map (·.1)).length - (i + 1), by omega, rfl, hlt, q⟩, fun x H3 hy => ?_⟩
      obtain ⟨F3, x3, r3⟩ := wk.yld F' Ω' H' i x H3 (ds.map (·.1))[i] gr en'.ex (List.getElem?_eq_getElem hlt) hy
      have gr3 := gr.trans x3.sub
      refine ⟨F3, Ω', ρ', (ds.map (·.1))[i], _, en'.ext x3, r3, h1 i (ds.map (·.1))[i] ρ' (List.getElem?_eq_getElem hlt) iv, fun σ4 F4 Ω4 H4 ρ4 gr4 _ en4 g4 => ⟨F4, Ω4, ρ4, _, en4, g4, ?_⟩⟩
      have grx := gr3.trans gr4
      exact ⟨fun σ5 F5 Ω5 H5 ρ5 gr5 en5 g5 => ⟨F5, Ω5, ρ5, (gr3.trans gr4).trans gr5, en5, g5⟩, fun v F5 Ω5 H5 y gr5 => k.rt v F5 Ω5 H5 y (grx.trans gr5), fun σ5 F5 Ω5 H5 ρ5 gr5 en5 g5 => k.nx σ5 F5 Ω5 H5 ρ5 (grx.trans gr5) en5 g5,
        fun σ5 F5 Ω5 H5 ρ5 gr5 en5 g5 => ⟨F5, Ω5, ρ5, (gr3.trans gr4).trans gr5, en5, g5⟩⟩
    · have e : i = (ds.map (·.1)).length := by omega
      subst e
      exact .inl ⟨wk.stop F' Ω' H' _ gr en'.ex (Nat.le_refl _), k.nx σ' F' Ω' H' ρ' gr en' (h2 ρ' iv)⟩
  refine ⟨fun B => ⟨fun pins s σ H De I h => ?_⟩⟩
  obtain ⟨F, Ω, ρ, d, en, ⟨ds, hc', hI⟩, k⟩ := h
  obtain ⟨a, u, hσ, fa, hu, mu, st, hJ⟩ := dic_any en hc'
  rcases st with hH | ⟨od, hH⟩
  · refine (ps_lock (t := fun De σ H => ∃ (od : Obj), H a = some (.frz od u) ∧ tFor (iKeys (tVar i)) (upG X.K (B.lock a od u) S g) (upT X.K (B.lock a od u) tb) De σ H) ⟨fun pins s σ H De I ⟨od, _, h⟩ => (ps_for hp hc (pi_keys hv) (hg.pg _) (hb.pss _) hs).run pins s σ H De I h⟩).run pins s σ H De I ⟨a, u, hH, mu, fun od => ⟨od, upd_same, ?_⟩⟩
    obtain ⟨J, hj, hw⟩ := hJ od
    have oB : (B.lock a od u).Ω a = none := om_base en.ex fa
    refine main (B.lock a od u) a od u J _ σ _ F Ω ρ d ds (en.lock od hu fa hH) upd_same oB hσ fa hj (hw _ upd_same oB) hI ?_
    refine ⟨fun σ' F' Ω' H' ρ' gr e h => ?_, fun v F' Ω' H' x gr e r h => ?_, fun σ' F' Ω' H' ρ' gr e h => ?_, fun σ' F' Ω' H' ρ' gr e h => ?_⟩
    · obtain ⟨h1, h2⟩ := En.unlock en.ex hu fa hH e
      exact ⟨h1, k.nx σ' F' Ω' _ ρ' gr h2 h⟩
    · obtain ⟨h1, h2⟩ := Ext.unlock en.ex hu fa hH e
      exact ⟨h1, k.rt v F' Ω' _ x gr h2 r h⟩
    · obtain ⟨h1, h2⟩ := En.unlock en.ex hu fa hH e
      exact ⟨h1, k.bk σ' F' Ω' _ ρ' gr h2 h⟩
    · obtain ⟨h1, h2⟩ := En.unlock en.ex hu fa hH e
      exact ⟨h1, k.ct σ' F' Ω' _ ρ' gr h2 h⟩
  · refine (ps_for hp hc (pi_keys hv) (hg.pg (B.lock a od u)) (hb.pss (B.lock a od u)) hs).run pins s σ H De I ?_
    obtain ⟨J, hj, hw⟩ := hJ od
    have oB : (B.lock a od u).Ω a = none := om_base en.ex fa
    refine main (B.lock a od u) a od u J _ σ _ F Ω ρ d ds (en.lock2 fa hH) upd_same oB hσ fa hj (hw _ upd_same oB) hI ?_
    exact ⟨fun σ' F' Ω' H' ρ' gr e h => k.nx σ' F' Ω' _ ρ' gr (En.unlock2 en.ex fa hH e) h, fun v F' Ω' H' x gr e r h => k.rt v F' Ω' _ x gr (Ext.unlock2 en.ex fa hH e) r h,
      fun σ' F' Ω' H' ρ' gr e h => k.bk σ' F' Ω' _ ρ' gr (En.unlock2 en.ex fa hH e) h, fun σ' F' Ω' H' ρ' gr e h => k.ct σ' F' Ω' _ ρ' gr (En.unlock2 en.ex fa hH e) h⟩
/-! ### comprehensions over it -/
theorem keysJA {B : Bs} {i : Nat} {σ : L2.St} {H : Hp} {R : It → Hp → Prop} {a : Addr} {od : Obj} {u : HO} (hσ : σ[i]? = some (some (.ref a))) (hd : isDic u = true) (hH : H a = some (.frz od u)) (h : upJ K B (kyA i) σ H R) : iKeys (tVar i) σ H R := by
  obtain ⟨F, Ω, ρ, G, en, ⟨ds, hc, g⟩, k⟩ := h
  obtain ⟨a', u', hσ', fa, hu, mu, st, hJ⟩ := dic_any en hc
  rw [hσ] at hσ'
  cases hσ'
  have e : u' = u := by
    rcases st with h | ⟨od', h⟩
    · rw [hH] at h; cases h; cases hu
    · rw [hH] at h; cases h; rfl
  subst e
  obtain ⟨J, hj, hw⟩ := hJ od
  exact ⟨.ref a, hσ, a, od, rfl, iK_of hj hH (k _ J F Ω H (Ext.refl en.wd) (hw ⟨F, Ω, H⟩ hH (om_none en.wd fa)) g)⟩
theorem lockA_core {B : Bs} {te : TC} {F : Hp} {Ω : Om} {H : Hp} {σ : L2.St} {ρ : List C} {G : CK} {Q : VK} {a : Addr} {u : HO} (od : Obj) (hu : isDic u = true) (en : En K B F Ω H σ ρ) (g : te ρ G) (k : Fin K F Ω H G Q) (fa : F a = some u) (hH : H a = some u) :
    upC K (B.lock a od u) te σ (L2.upd H a (.frz od u)) fun v H' => H' a = some (.frz od u) ∧ Q v (L2.upd H' a u) := by
  refine ⟨F, Ω, ρ, G, en.lock od hu fa hH, g, fun c v F' Ω' H' A x r o f gc => ?_⟩
  have x' : Ext (Bs.lock ⟨F, Ω, H⟩ a od u).F (Bs.lock ⟨F, Ω, H⟩ a od u).Ω (Bs.lock ⟨F, Ω, H⟩ a od u).H F' Ω' H' := by
    show Ext (L2.upd F a u) Ω (upd H a (.frz od u)) F' Ω' H'
    rw [upd_eta fa]
    exact x
  obtain ⟨h1, h2⟩ := Ext.unlock (B := ⟨F, Ω, H⟩) (Ext.refl en.wd) hu fa hH x'
  have fa' : F' a = some u := x.sub a _ fa
  have na : a ∉ A := fun m => by have := (o a m).1; rw [fa'] at this; cases this
  refine ⟨h1, k c v F' Ω' _ A h2 (r.upd na) o (fun b m => ?_) gc⟩
  have := f b m
  rwa [upd_ne (fun z => na (by rw [← z]; exact m))] at this
theorem vs_setLcA (i : Nat) {n : Nat} {y : Str} {py spos : Pos} {scope : Scope} {own : List (Str × Nat)} {g : VG'} {tt : TB} {te : TC} {S : List Nat} (hN : X.N.Nodup) (hy : X.N[n]? = some y) (hyl : X.env.scope.names.lookup y = some .local)
    (hsw : swapsWith (.ListComp elt [⟨tg, iter, ifs, 0⟩] scope pos) (some (.Name y py)) spos.line X.env = pure true) (hv : PE X iter (tVar i)) (ok : blkC X.N X.env.scope scope own = true)
    (hg : ∀ (s : Shared) (H : Hp) (C : Addr) (cl : List (Str × Addr)) (fp : List Addr), VN (X.blk s H scope (compEnvC scope cl C X.env) fp) tg S g)
    (ht : ∀ (s : Shared) (H : Hp) (C : Addr) (cl : List (Str × Addr)) (fp : List Addr), VTs (X.blk s H scope (compEnvC scope cl C X.env) fp) ifs tt)
    (he : ∀ (s : Shared) (H : Hp) (C : Addr) (cl : List (Str × Addr)) (fp : List Addr), VC (X.blk s H scope (compEnvC scope cl C X.env) fp) elt te)
    (hS : ∀ i ∈ S, i ∈ own.map (·.2) := by decide) (hc : X.calm = true := by rfl) (hs : ∀ x, foldedSetIterable iter X.env x = pure x := by intro _; rfl) :
    VS X (.Assign [.Name y py] (.ListComp elt [⟨tg, iter, ifs, 0⟩] scope pos) spos) (fun d ρ => cLc (kyA i) g tt te (own.map (·.2)) ρ fun c => d.nx (ρ.set n c)) := by
  have pr : ∀ B : Bs, PS X (.Assign [.Name y py] (.ListComp elt [⟨tg, iter, ifs, 0⟩] scope pos) spos) (tAsg (tLc (iKeys (tVar i)) (upN X.K B S g) (upB X.K B tt) (upC X.K B fun ρ G => te ρ fun c => fz c fun d => G (.sh d)) (own.map (·.2))) (gName n)) := fun B => ps_setLc hc hN hy hyl hsw (pi_keys hv) (blkOk_by ok) (fun s H C cl fp => (hg s H C cl fp).pg B) (fun s H C cl fp => (ht s H C cl fp).pts B) (fun s H C cl fp => (he s H C cl fp).vd.vc.pe B) hs
  refine ⟨fun B => ⟨fun pins s σ H De I hh => ?_⟩⟩
  obtain ⟨F, Ω, ρ, d, en, g0, k⟩ := hh
  have fin : Fin X.K F Ω H (fun c => d.nx (ρ.set n c)) (fun v H' => De.nx (σ.set n (some v)) H') := fun c v F' Ω' H' A x r o f gc => k.nx _ F' Ω' H' _ x.sub (en.set x r o f n) gc
  obtain ⟨ds, hc', _⟩ := (show kyA i ρ _ from g0)
  obtain ⟨a, u, hσ, fa, hu, mu, st, _⟩ := dic_any en hc'
  rcases st with hH | ⟨od, hH⟩
  · refine (ps_lock (t := fun De σ H => ∃ od, H a = some (.frz od u) ∧ tAsg (tLc (iKeys (tVar i)) (upN X.K (B.lock a od u) S g) (upB X.K (B.lock a od u) tt) (upC X.K (B.lock a od u) fun ρ G => te ρ fun c => fz c fun d => G (.sh d)) (own.map (·.2))) (gName n) De σ H) ⟨fun pins s σ H De I ⟨od, _, h'⟩ => (pr _).run pins s σ H De I h'⟩).run pins s σ H De I ⟨a, u, hH, mu, fun od => ⟨od, upd_same, ?_⟩⟩
    exact keysJA hσ hu upd_same (lc_up hS (lockA_core od hu en g0 fin fa hH))
  · exact (pr B).run pins s σ H De I (keysJA hσ hu hH (lc_up hS ⟨F, Ω, ρ, _, en, g0, fin⟩))
theorem vc_lcA (i : Nat) {scope : Scope} {own : List (Str × Nat)} {g : VG'} {tt : TB} {te : TC} {S : List Nat} (hv : PE X iter (tVar i)) (hN : X.N.Nodup) (ok : blkC X.N X.env.scope scope own = true)
    (hg : ∀ (s : Shared) (H : Hp) (C : Addr) (cl : List (Str × Addr)) (fp : List Addr), VN (X.blk s H scope (compEnvC scope cl C X.env) fp) tg S g)
    (ht : ∀ (s : Shared) (H : Hp) (C : Addr) (cl : List (Str × Addr)) (fp : List Addr), VTs (X.blk s H scope (compEnvC scope cl C X.env) fp) ifs tt)
    (he : ∀ (s : Shared) (H : Hp) (C : Addr) (cl : List (Str × Addr)) (fp : List Addr), VC (X.blk s H scope (compEnvC scope cl C X.env) fp) elt te)
    (hS : ∀ i ∈ S, i ∈ own.map (·.2) := by decide) (hc : X.calm = true := by rfl) (hs : ∀ x, foldedSetIterable iter X.env x = pure x := by intro _; rfl) :
    VC X (.ListComp elt [⟨tg, iter, ifs, 0⟩] scope pos) (cLc (kyA i) g tt te (own.map (·.2))) := by
  have h : ∀ B : Bs, PE X (.ListComp elt [⟨tg, iter, ifs, 0⟩] scope pos) (tLc (iKeys (tVar i)) (upN X.K B S g) (upB X.K B tt) (upC X.K B fun ρ G => te ρ fun c => fz c fun d => G (.sh d)) (own.map (·.2))) := fun B => pe_lc hc hN (pi_keys hv) (blkOk_by ok) (fun s H C cl fp => (hg s H C cl fp).pg B) (fun s H C cl fp => (ht s H C cl fp).pts B) (fun s H C cl fp => (he s H C cl fp).vd.vc.pe B) hs
  refine ⟨fun B => ⟨fun pins s σ H Q I hh => ?_⟩⟩
  obtain ⟨F, Ω, ρ, G, en, g0, k⟩ := hh
  obtain ⟨ds, hc', _⟩ := (show kyA i ρ _ from g0)
  obtain ⟨a, u, hσ, fa, hu, mu, st, _⟩ := dic_any en hc'
  rcases st with hH | ⟨od, hH⟩
  · refine (pe_lock (t := fun σ H Q => ∃ od, H a = some (.frz od u) ∧ tLc (iKeys (tVar i)) (upN X.K (B.lock a od u) S g) (upB X.K (B.lock a od u) tt) (upC X.K (B.lock a od u) fun ρ G => te ρ fun c => fz c fun d => G (.sh d)) (own.map (·.2)) σ H Q) ⟨fun pins s σ H Q I ⟨od, _, h'⟩ => (h _).run pins s σ H Q I h'⟩).run pins s σ H Q I ⟨a, u, hH, mu, fun od => ⟨od, upd_same, ?_⟩⟩
    exact keysJA hσ hu upd_same (lc_up hS (lockA_core od hu en g0 k fa hH))
  · exact (h B).run pins s σ H Q I (keysJA hσ hu hH (lc_up hS ⟨F, Ω, ρ, _, en, g0, k⟩))
/-! ### an empty dict of one's own is one of plain keys -/
theorem _root_.L2.Inv.retype {pins : List (Addr × Obj)} {σ : L2.St} {H : Hp} {s : Shared} {a : Addr} (I : Inv X pins σ H s) (h : H a = some (.dT [])) : Inv X pins σ (upd H a (.dK [])) s := by
  obtain ⟨z, hs, xs, rel, ob, es, ep, h1, h2, h3, h4, h5⟩ := (show ObjOk X.prog X.w H s.heap a (.dT []) from I.hok a _ h)
  cases rel
  have he : es = #[] := by
    apply Array.ext'
    rw [h4]; rfl
  subst he
  have new : ObjOk X.prog X.w (upd H a (.dK [])) s.heap a (.dK []) := ⟨Nat.zero_le _, hs, [], .nil, ob, #[], ep, h1, h2, h3, (fun _ he => by simp at he), PySem.Pairs.nil, List.nodup_nil⟩
  exact I.write (t' := s.toks) (by rw [h]; trivial) (.inl rfl) (fun b u _ e => e) ⟨_, h1⟩ new
def rtT (i : Nat) (ρ : List C) (G : List C → Prop) : Prop := match ρ[i]? with
  | some (.odT []) => G (ρ.set i (.od []))
  | _ => G ρ
theorem vs_retype (i : Nat) (h : VS X st t) : VS X st (fun d ρ => rtT i ρ (t d)) := by
  refine ⟨fun B => ⟨fun pins s σ H De I hh => ?_⟩⟩
  obtain ⟨F, Ω, ρ, d, en, g, k⟩ := hh
  unfold rtT at g
  split at g
  · rename_i hc
    obtain ⟨As, h1, h2, h3⟩ := en.own
    obtain ⟨v0, hv0, r0⟩ := h1 i _ hc (by simp)
    obtain ⟨a, vs, rfl, hA, ha, q⟩ := r0
    cases q
    have ia := h2 i a (by rw [hA]; exact List.mem_cons_self)
    obtain ⟨v2, A2, hv2, r2, ow2, fin2⟩ := en.chg hc (c' := .od []) (by simp)
    rw [hv0] at hv2
    cases hv2
    obtain ⟨a2, vs2, e2, hA2, ha2, q2⟩ := r2
    cases e2
    have en' := fin2 F Ω _ [a] (en.ex.put (o := .dK []) ia.2.2.2 ia.1 ia.2.1) (Gr.refl _) (fun b hb hh => ⟨rfl, rfl, fun o h _ => by rw [upd_ne (fun z => hb (by rw [hA2, z]; exact List.mem_cons_self))]; exact h⟩) (fun _ _ h => h) ⟨a, [], rfl, rfl, upd_same, .nil⟩ (fun c m => by rw [List.mem_singleton.mp m]; exact ⟨ia.1, ia.2.1⟩) (fun c m => .inl (by rw [hA2]; exact m))
    exact (h.ps B).run pins s σ _ De (I.retype ha) ⟨F, Ω, _, d, en', g, k⟩
  · exact (h.ps B).run pins s σ H De I ⟨F, Ω, ρ, d, en, g, k⟩
end
end TL
namespace TL
open PySem PySem.Spec PyProof.Rows L2
section
variable {X : Cx} {a b e : Expr} {es : List Expr} {pos : Pos} {K : Fg}
/-! ### sorted(d) of a dict with tuple keys -/
theorem reps_keys {F : Hp} {H : Hp} (tp : ∀ a vs, H a = some (.tup vs) → F a = some (.tup vs)) : ∀ {kvs : List (List Key × V)} {xs : List (List Key × Addr × Value)}, KT H kvs xs → Reps K F ((xs.map fun x => x.2.1).map V.ref) (kvs.map fun p => kTD p.1)
  | _, _, .nil => .nil
  | _, _, .cons h t => .cons (.tup (tp _ _ h.2.1) (reps_kD _)) (reps_keys tp t)
theorem cr_sortedT2 (hc : X.calm = true) (hu : X.A.units + 64 < cLine) : CallR X (.builtin "sorted") (fun vs H Q => ∃ (F : Hp) (d : Addr) (kvs : List (List Key × V)), Sub F H ∧ (∀ a vs, H a = some (.tup vs) → F a = some (.tup vs)) ∧ vs = [V.ref d] ∧ Rd H d (.dT kvs) ∧ SrtOk (kvs.map fun p => kTD p.1) ∧
    ∀ (ys : List V) (p : Addr), Reps X.K F ys (srtD (kvs.map fun p => kTD p.1)) → H p = none → Q (.ref p) (upd H p (.lst ys))) := by
  intro pins s σ H vs us Q I r h
  obtain ⟨F, d, kvs, sub, tp, rfl, hd, ⟨hal, hso, hcl, hdp⟩, q⟩ := h
  rw [Vals.ref1 r]
  obtain ⟨z, hs, ks, pr, o, es, ep, ho, hx, hdt, he, hn⟩ := (show ObjOk X.prog X.w H s.heap d (.dT kvs) from hd.ok I.hok)
  have l1 : es.size = ks.length := size_of_entries he
  have l2 : kvs.length = ks.length := Paired.length pr
  refine Calls.call_function_entry PyProof.Rows.kind_sorted PyProof.Rows.plain_sorted PyProof.Rows.entry_sorted (PyProof.Rows.args_sorted1 _) ?_
  unfold Builtin.«sorted»
  refine wpAny_bind (m := checkCount "sorted" 1 1 _) (wpAny_pure ?_)
  refine wpAny_bind (PySem.W.kdu_collect (A := X.A.in1) (kdl_raw hs hx hdt) (I.ok.hd hc) ho (by omega) fun h' tk acc hk it => ?_)
  have ea : acc.toList = ks.map fun x => Value.ref x.2.1 := by
    have hl : acc.toList.length = ks.length := by rw [Array.length_toList, it.1]; exact l1
    apply List.ext_getElem?
    intro j
    rw [List.getElem?_map]
    cases hj : acc.toList[j]? with
    | none =>
      have h1 := List.getElem?_eq_none_iff.mp hj
      rw [List.getElem?_eq_none (by omega)]
      all_goals rfl
    | some v =>
      obtain ⟨en, hen, hv⟩ := it.2 j v (by rw [← Array.getElem?_toList]; exact hj)
      have qe := entry_at he j
      rw [hen] at qe
      cases hb : ks[j]? with
      | none =>
        rw [hb] at qe
        exact nomatch (show some en = none from qe)
      | some b =>
        rw [hb] at qe
        have e2 : en = entryOfKey (tupleKind (mixKind X.prog X.w)) b := Option.some.inj qe
        rw [hv, e2]
        all_goals rfl
  have eb : acc.toList = (ks.map fun x => x.2.1).map Value.ref := by rw [ea, List.map_map]; all_goals rfl
  generalize acc.toList = its at eb
  subst eb
  have rv : Vals ((ks.map fun x => x.2.1).map V.ref) ((ks.map fun x => x.2.1).map Value.ref) := vals_refs _
  have rep : Reps X.K F ((ks.map fun x => x.2.1).map V.ref) (kvs.map fun p => kTD p.1) := reps_keys tp pr
  have I1 : Inv X pins σ H { s with heap := h', toks := tk } := I.kept hk
  have hE := each_dp I1 rv (rep.dp sub hcl)
  generalize hits : (ks.map fun x => x.2.1).map Value.ref = its at rv hE
  have hLz : its.length ≤ sizeLine := by rw [← hits, List.length_map, List.length_map]; omega
  have hLk : kvs.length ≤ sizeLine := z
  refine wpAny_bind (wpAny_newList ?_ hLz)
  have hoL : (h'.push (seqObj "list" its.toArray 0)).get? h'.objs.size = some (seqObj "list" its.toArray 0) := Heap.get?_push_size _ rfl
  show wpAny _ _ _ _ _ { s with heap := h'.push (seqObj "list" its.toArray 0), toks := tk }
  have old : ∀ b o, h'.get? b = some o → (PySem.W.sortingHeap (h'.push (seqObj "list" its.toArray 0)) h'.objs.size its).get? b = some o := fun b o e => PySem.W.sortingHeap_old (Nat.ne_of_lt (Heap.lt_size e)) (Heap.get?_push_of_some _ e)
  have hE' : PySem.W.EachIs (fun u d => ∃ as, Reads (PySem.W.sortingHeap (h'.push (seqObj "list" its.toArray 0)) h'.objs.size its) u d as) its (kvs.map fun p => kTD p.1) := PySem.W.EachIs.mono (fun u d ⟨as, h⟩ => ⟨as, reads_old old h⟩) hE
  refine wpAny_bind (wpAny_holding (wpAny_call_entry PyProof.Rows.slot_list_sort ⟨_, hoL, rfl⟩ PyProof.Rows.entry_list_sort
    (PySem.W.list_sort_vals (s := { s with heap := h'.push (seqObj "list" its.toArray 0), toks := tk }) hoL (PySem.W.SortsAt.data (s := { s with heap := PySem.W.sortingHeap (h'.push (seqObj "list" its.toArray 0)) h'.objs.size its, toks := tk }) hE' hal hso fun d hd => ?_) hLz ⟨_, rfl, ?_⟩)
    (PyProof.Rows.args_list_sort _)))
  · have := hdp d hd
    show X.A.units + 1 + 1 + d.depth < cLine
    omega
  · generalize hout : PySem.W.sortVals _ false its its = out
    have ko : PySem.W.KeyedOut false ((kvs.map fun p => kTD p.1).map fun d => d) its out := by
      rw [List.map_id']
      exact ⟨_, its, hal, hout.symm, hE'⟩
    have er := PySem.W.keyedOut_each (R := fun u d => ∃ x, RelV x u ∧ Rep X.K F x d) (fun d : D => d) ko (each_of_vals rv rep)
    obtain ⟨ys, h1, h2⟩ := vals_of_each er
    obtain ⟨ep', he'⟩ := PyProof.Rows.sortedHeap_at (vs := its) (out := out.toArray) hoL
    have hlen : ys.length ≤ sizeLine := by
      have e1 : ys.length = (srtD (kvs.map fun p => kTD p.1)).length := h2.length
      rw [e1, (srtD_perm _).length_eq, List.length_map]
      exact z
    refine wpAny_pure ⟨_, rfl, .ref h'.objs.size, upd H h'.objs.size (.lst ys), I1.laid (t' := tk) (fun b u e => ?_) (Nat.le_refl _) ⟨hlen, out, ep', h1, he'⟩, rfl, q ys _ h2 (I1.hok.fresh (Nat.le_refl _))⟩
    have hb : b < h'.objs.size := Heap.lt_size e
    rw [PyProof.Rows.sortedHeap_old (Nat.ne_of_lt hb) (by rw [size_push']; exact Nat.lt_succ_of_lt hb)]
    exact Heap.get?_push_of_some _ e
def cSortT (c : C) (G : CK) : Prop := ∃ kvs, kvT c kvs ∧ SrtOk (kvs.map fun p => kTD p.1) ∧ G (.ol (srtD (kvs.map fun p => kTD p.1)))
theorem vc_sortT {p : Pos} {ta : TC} (hu : X.A.units + 64 < cLine) (ha : SE X a ta) (hg : Gl X "sorted") (hm : X.mg "sorted" = none) (hc : X.calm = true := by rfl) (hs : starEach [a] X.env = (false, eval a X.env) :: starEach [] X.env := by rfl) : VC X (.Call (.Name "sorted" p) [a] [] pos) (cUn cSortT ta) :=
  vc_b1 (cr_sortedT2 hc hu) (fun F Ω H c v A G Q w r ⟨kvs, hk, ok, h⟩ k => by
    obtain ⟨a, ks, rfl, rd, q⟩ := kvT_get w r hk
    have e : kvs.map (fun p => kTD p.1) = ks.map fun p => kTD p.1 := by
      have := congrArg (List.map kTD) q.keys
      rw [List.map_map, List.map_map] at this
      exact this.symm
    rw [e] at ok h
    exact ⟨F, a, ks, w.sub, w.tp, rfl, rd, ok, fun ys p h1 n => k.ol w n h1 h⟩) hg hm (by decide +kernel) ha hs
end
end TL
namespace My
open PySem PySem.Spec PyProof.Rows L2 TL
open PyData (strOk)
def topS (i : Nat) : Stmt := PySem.Challenge.pw_boxwood_k97_whole_tables_exchanged_and_m.main.body.getD i (.Pass ⟨0, 0, 0, 0⟩)
/-! ### the pool -/
abbrev s_law_mixed : Stmt := topS 9
theorem sc_law_mixed : FnScope ["number", "place", "first", "second", "third"] ["number", "place"] (defScope s_law_mixed) := ⟨rfl, rfl, rfl, by decide +kernel, rfl, by decide +kernel, by decide +kernel⟩
abbrev s_law_rest : Stmt := topS 10
theorem sc_law_rest : FnScope ["script", "place", "fills", "number"] ["script", "place", "fills"] (defScope s_law_rest) := ⟨rfl, rfl, rfl, by decide +kernel, rfl, by decide +kernel, by decide +kernel⟩
abbrev s_law_pool : Stmt := topS 11
theorem sc_law_pool : FnScope ["script"] ["script"] (defScope s_law_pool) := ⟨rfl, rfl, rfl, by decide +kernel, rfl, by decide +kernel, by decide +kernel⟩
abbrev s_law_draw : Stmt := topS 13
theorem sc_law_draw : FnScope ["pool", "limit", "value"] ["pool", "limit"] (defScope s_law_draw) := ⟨rfl, rfl, rfl, by decide +kernel, rfl, by decide +kernel, by decide +kernel⟩
theorem boot_int' : bootBuiltins "int" = some (.type "int") := by decide +kernel
section
variable {P : Program} {w : World} {K : Fg} {mg : Str → Option Value} {base : Heap}
theorem ok_mixed (D : Df K mg "_law_mixed" s_law_mixed ["number", "place"]) (mi : mg "int" = none) : CalR P w K mg base "_law_mixed" 1 ["number", "place"] spMixed := by
  refine calR_ok D sc_law_mixed (fun vs H Q E ⟨n, p, h, _⟩ => by rw [h]; rfl) (fun f cdv A outer s H vs Q E hr ⟨n, p, hv, q⟩ => ?_)
  subst hv
  refine ⟨_, pss_cons (ps_set (i := 2) sc_law_mixed.nd rfl (.inl rfl) (pe_op op_mod (pe_callTy call_int1 (by rfl) mi boot_int' (pa_cons (pe_op op_add (pe_op op_add (pe_op op_mul (pv 0) pe_int) (pe_op op_mul (pv 1) pe_int)) pe_int) pa_nil)) pe_int))
    (pss_cons (ps_set (i := 3) sc_law_mixed.nd rfl (.inl rfl) (pe_op op_mod (pe_callTy call_int1 (by rfl) mi boot_int' (pa_cons (pe_op op_add (pe_op op_add (pe_op op_mulW (pv 2) (pv 2)) (pe_op op_mul pe_int (pv 2))) (pv 1)) pa_nil)) pe_int))
    (pss_cons (ps_set (i := 4) sc_law_mixed.nd rfl (.inl rfl) (pe_op op_mod (pe_callTy call_int1 (by rfl) mi boot_int' (pa_cons (pe_op op_add (pe_op op_mulW (pv 3) (pv 3)) (pv 2)) pa_nil)) pe_int))
    (pss_one (ps_ret (pe_op op_add (pe_op op_mulW (pv 3) pe_int) (pv 4)))))), ?_⟩
  have b1 : ∀ x : Int, (x % 618970019642690137449562111).natAbs < 2 ^ 90 := fun x => by
    have h1 := Int.emod_nonneg x (show (618970019642690137449562111 : Int) ≠ 0 by decide)
    have h2 := Int.emod_lt_of_pos x (show (0 : Int) < 618970019642690137449562111 by decide)
    omega
  have b2 : ∀ x : Int, (x % 162259276829213363391578010288127).natAbs < 2 ^ 110 := fun x => by
    have h1 := Int.emod_nonneg x (show (162259276829213363391578010288127 : Int) ≠ 0 by decide)
    have h2 := Int.emod_lt_of_pos x (show (0 : Int) < 162259276829213363391578010288127 by decide)
    omega
  have g1 : (0 : Int) < 618970019642690137449562111 := by decide
  have g2 : (0 : Int) < 162259276829213363391578010288127 := by decide
  refine ⟨_, rfl, _, _, rfl, rfl, .inr ⟨by decide, by decide⟩, _, rfl, _, _, rfl, rfl, .inr ⟨by decide, by decide⟩, _, _, rfl, rfl, _, _, rfl, rfl, .inl ⟨_, rfl, _, _, rfl, rfl, g1, ?_⟩⟩
  refine ⟨_, rfl, _, rfl, _, _, rfl, rfl, wide_mul (b1 _) (b1 _) (by decide) (by decide) (by decide), _, rfl, _, _, rfl, rfl, .inl ⟨by decide, by decide⟩, _, _, rfl, rfl, _, rfl, _, _, rfl, rfl, .inl ⟨_, rfl, _, _, rfl, rfl, g2, ?_⟩⟩
  refine ⟨_, rfl, _, rfl, _, _, rfl, rfl, wide_mul (b2 _) (b2 _) (by decide) (by decide) (by decide), _, rfl, _, _, rfl, rfl, .inl ⟨_, rfl, _, _, rfl, rfl, g1, ?_⟩⟩
  exact ⟨_, rfl, _, _, rfl, rfl, wide_mul (b := 90) (b2 _) (by decide) (by decide) (by decide) (by decide), _, rfl, _, _, rfl, rfl, q _⟩
theorem ok_rest {c0 : CalR P w K mg base "_law_mixed" 1 ["number", "place"] spMixed} (D : Df K mg "_law_rest" s_law_rest ["script", "place", "fills"]) (mi : mg "int" = none) (ml : mg "len" = none) : CalR P w K mg base "_law_rest" 2 ["script", "place", "fills"] (spRest K) := by
  refine calR_ok D sc_law_rest (fun vs H Q E ⟨sa, p, f, ns, h, _⟩ => by rw [h]; rfl) (fun f cdv A outer s H vs Q E hr ⟨sa, p, fi, ns, hv, hS, hl, q⟩ => ?_)
  subst hv
  have nd := sc_law_rest.nd
  refine ⟨_, pss_cons (ps_set (i := 3) nd rfl (.inl rfl) pe_int)
    (pss_cons (ps_if (pt_cmpR op_gt (pe_callB call_len_seq (by rfl) ml PySem.boot_len (pa_cons (pv 0) pa_nil)) pe_int (nomark _))
        (pss_one (ps_set (i := 3) nd rfl (.inl rfl) (pe_callTy call_int1 (by rfl) mi boot_int' (pa_cons (pe_ix ix_list (pv 0) (pe_op op_mod (pe_callTy call_int1 (by rfl) mi boot_int' (pa_cons (pv 1) pa_nil)) (pe_callB call_len_seq (by rfl) ml PySem.boot_len (pa_cons (pv 0) pa_nil))) (fun _ _ => rfl)) pa_nil)))) pss_nil)
    (pss_cons (ps_if (pt_cmpR op_lt (pv 3) pe_int (nomark _)) (pss_one (ps_set (i := 3) nd rfl (.inl rfl) (pe_op op_sub pe_int (pe_op op_mul pe_int (pv 3))))) pss_nil)
    (pss_cons (ps_if (PW.pt (pw_and (pt_cmpR op_eq (pv 2) pe_int (nomark _)) (pw_and (pt_cmpR op_lt (pv 1) (pe_callB call_len_seq (by rfl) ml PySem.boot_len (pa_cons (pv 0) pa_nil)) (nomark _)) (pw_and1 (pt_cmpR op_ge (pv 3) (pe_op op_pow pe_int pe_int) (nomark _))))))
        (pss_one (ps_ret (pe_op op_sub (pv 3) (pe_op op_pow pe_int pe_int)))) pss_nil)
    (pss_one (ps_ret (pe_cal c0 (hr.mono (by decide)) (pa_cons (pe_op op_add (pv 3) (pe_op op_mul (pv 2) pe_int)) (pa_cons (pv 1) pa_nil)))))))), ?_⟩
  have g0 : ∀ ns : List Int, (decide ((0 : Int) < ((ns.map V.int).length : Nat)) = true) → (0 : Int) < (ns.length : Nat) := fun ns h => by
    have := of_decide_eq_true h
    rwa [List.length_map] at this
  refine ⟨_, rfl, sa, _, rfl, .inl hS, _, _, rfl, rfl, _, rfl, ite2 (fun e => ?_) (fun e => ?_)⟩
  · have e1 := g0 ns e
    have e2 : ((ns.map V.int).length : Int) = (ns.length : Nat) := by rw [List.length_map]
    have hj : (p % (ns.length : Nat)).toNat < ns.length := by
      have h1 := Int.emod_nonneg p (show ((ns.length : Nat) : Int) ≠ 0 by omega)
      have h2 := Int.emod_lt_of_pos p e1
      omega
    have hat : atI (ns.map V.int) (p % ((ns.map V.int).length : Nat)) = some (.int ns[(p % (ns.length : Nat)).toNat]) := by
      have h1 := Int.emod_nonneg p (show ((ns.length : Nat) : Int) ≠ 0 by omega)
      have h3 : (p % ((ns.map V.int).length : Nat)) = (((p % (ns.length : Nat)).toNat : Nat) : Int) := by rw [e2]; omega
      rw [h3]
      apply atI_nat
      rw [List.getElem?_map, List.getElem?_eq_getElem hj]
      rfl
    refine ⟨.ref sa, rfl, _, rfl, .inl ⟨_, rfl, .ref sa, rfl, sa, _, rfl, .inl hS, _, _, rfl, rfl, ?_, sa, _, _, _, rfl, rfl, hS, hat, .inl ⟨_, rfl, ?_⟩⟩⟩
    · rw [e2]
      exact e1
    generalize ns[(p % (ns.length : Nat)).toNat] = x
    refine ⟨_, rfl, _, _, rfl, rfl, _, rfl, ite2 (fun e => ?_) (fun e => ?_)⟩
    · refine ⟨_, rfl, _, _, rfl, rfl, .inl ⟨by decide, by decide⟩, _, _, rfl, rfl, ?_⟩
      refine ⟨_, rfl, rfl, _, rfl, ite2 (fun e => ⟨_, rfl, _, rfl, sa, _, rfl, .inl hS, _, _, rfl, rfl, _, rfl, ite2 (fun e => ⟨_, rfl, ⟨_, _, rfl, rfl, ⟨by decide, by decide, by decide⟩, _, _, rfl, rfl, _, rfl, ite2 (fun e => ?_) (fun e => ?_)⟩⟩) (fun e => iteF ?_)⟩) (fun e => iteF ?_)⟩
      · exact ⟨_, rfl, _, _, rfl, rfl, ⟨by decide, by decide, by decide⟩, _, _, rfl, rfl, q _⟩
      all_goals exact ⟨_, rfl, _, rfl, _, _, rfl, rfl, .inr ⟨by decide, by decide⟩, _, _, rfl, rfl, _, rfl, _, _, rfl, q⟩
    · refine ⟨_, rfl, rfl, _, rfl, ite2 (fun e => ⟨_, rfl, _, rfl, sa, _, rfl, .inl hS, _, _, rfl, rfl, _, rfl, ite2 (fun e => ⟨_, rfl, ⟨_, _, rfl, rfl, ⟨by decide, by decide, by decide⟩, _, _, rfl, rfl, _, rfl, ite2 (fun e => ?_) (fun e => ?_)⟩⟩) (fun e => iteF ?_)⟩) (fun e => iteF ?_)⟩
      · exact ⟨_, rfl, _, _, rfl, rfl, ⟨by decide, by decide, by decide⟩, _, _, rfl, rfl, q _⟩
      all_goals exact ⟨_, rfl, _, rfl, _, _, rfl, rfl, .inr ⟨by decide, by decide⟩, _, _, rfl, rfl, _, rfl, _, _, rfl, q⟩
  · refine ⟨_, rfl, _, _, rfl, rfl, _, rfl, ite2 (fun e => ?_) (fun e => ?_)⟩
    · refine ⟨_, rfl, _, _, rfl, rfl, .inl ⟨by decide, by decide⟩, _, _, rfl, rfl, ?_⟩
      refine ⟨_, rfl, rfl, _, rfl, ite2 (fun e => ⟨_, rfl, _, rfl, sa, _, rfl, .inl hS, _, _, rfl, rfl, _, rfl, ite2 (fun e => ⟨_, rfl, ⟨_, _, rfl, rfl, ⟨by decide, by decide, by decide⟩, _, _, rfl, rfl, _, rfl, ite2 (fun e => ?_) (fun e => ?_)⟩⟩) (fun e => iteF ?_)⟩) (fun e => iteF ?_)⟩
      · exact ⟨_, rfl, _, _, rfl, rfl, ⟨by decide, by decide, by decide⟩, _, _, rfl, rfl, q _⟩
      all_goals exact ⟨_, rfl, _, rfl, _, _, rfl, rfl, .inr ⟨by decide, by decide⟩, _, _, rfl, rfl, _, rfl, _, _, rfl, q⟩
    · refine ⟨_, rfl, rfl, _, rfl, ite2 (fun e => ⟨_, rfl, _, rfl, sa, _, rfl, .inl hS, _, _, rfl, rfl, _, rfl, ite2 (fun e => ⟨_, rfl, ⟨_, _, rfl, rfl, ⟨by decide, by decide, by decide⟩, _, _, rfl, rfl, _, rfl, ite2 (fun e => ?_) (fun e => ?_)⟩⟩) (fun e => iteF ?_)⟩) (fun e => iteF ?_)⟩
      · exact ⟨_, rfl, _, _, rfl, rfl, ⟨by decide, by decide, by decide⟩, _, _, rfl, rfl, q _⟩
      all_goals exact ⟨_, rfl, _, rfl, _, _, rfl, rfl, .inr ⟨by decide, by decide⟩, _, _, rfl, rfl, _, rfl, _, _, rfl, q⟩
theorem ok_pool {c0 : CalR P w K mg base "_law_rest" 2 ["script", "place", "fills"] (spRest K)} (D : Df K mg "_law_pool" s_law_pool ["script"]) : CalR P w K mg base "_law_pool" 3 ["script"] (spPool K) := by
  refine calR_ok D sc_law_pool (fun vs H Q E ⟨sa, ns, h, _⟩ => by rw [h]; rfl) (fun f cdv A outer s H vs Q E hr ⟨sa, ns, hv, hS, hl, q⟩ => ?_)
  subst hv
  exact ⟨_, pss_one (ps_ret (pe_lst (pa_cons (pv 0) (pa_cons pe_int (pa_cons (pe_cal c0 (hr.mono (by decide)) (pa_cons (pv 0) (pa_cons pe_int (pa_cons pe_int pa_nil)))) (pa_cons pe_int pa_nil)))))),
    _, rfl, _, rfl, sa, _, _, ns, rfl, hS, hl, fun r => ⟨sz (by show 4 ≤ 16777216; decide), fun p n => q r p n⟩⟩
theorem ok_draw {c0 : CalR P w K mg base "_law_rest" 2 ["script", "place", "fills"] (spRest K)} (D : Df K mg "_law_draw" s_law_draw ["pool", "limit"]) (mi : mg "int" = none) : CalR P w K mg base "_law_draw" 3 ["pool", "limit"] (spDraw K) := by
  refine calR_ok D sc_law_draw (fun vs H Q E ⟨a, sa, l, p1, p2, p3, ns, h, _⟩ => by rw [h]; rfl) (fun f cdv A outer s H vs Q E hr ⟨a, sa, l, p1, p2, p3, ns, hv, hA, hS, hl, h0, h1, q⟩ => ?_)
  subst hv
  have nd := sc_law_draw.nd
  refine ⟨_, pss_cons (ps_if (pt_cmpR op_le (pe_ix ix_list (pv 0) pe_int (fun _ _ => rfl)) pe_int (nomark _))
      (pss_cons (ps_asg (pe_op op_add (pe_ix ix_list (pv 0) pe_int (fun _ _ => rfl)) pe_int) (pg_sub (pv 0) pe_int set_list))
      (pss_one (ps_asg (pe_cal c0 (hr.mono (by decide)) (pa_cons (pe_ix ix_list (pv 0) pe_int (fun _ _ => rfl)) (pa_cons (pe_ix ix_list (pv 0) pe_int (fun _ _ => rfl)) (pa_cons (pe_ix ix_list (pv 0) pe_int (fun _ _ => rfl)) pa_nil)))) (pg_sub (pv 0) pe_int set_list)))) pss_nil)
    (pss_cons (ps_set (i := 2) nd rfl (.inl rfl) (pe_op op_mod (pe_callTy call_int1 (by rfl) mi boot_int' (pa_cons (pe_ix ix_list (pv 0) pe_int (fun _ _ => rfl)) pa_nil)) (pv 1)))
    (pss_cons (ps_asg (pe_op op_fdiv (pe_callTy call_int1 (by rfl) mi boot_int' (pa_cons (pe_ix ix_list (pv 0) pe_int (fun _ _ => rfl)) pa_nil)) (pv 1)) (pg_sub (pv 0) pe_int set_list))
    (pss_one (ps_ret (pv 2))))), ?_⟩
  refine ⟨.ref a, rfl, a, _, 2, _, rfl, rfl, .inl (.inl hA), rfl, _, _, rfl, rfl, _, rfl, ite2 (fun e => ?_) (fun e => ?_)⟩
  · refine ⟨.ref a, rfl, a, _, 3, _, rfl, rfl, .inl (.inl hA), rfl, _, _, rfl, rfl, .ref a, rfl, a, _, 3, 3, rfl, rfl, hA, rfl, ?_⟩
    have hS1 := sqL_upd (o := .lst [.ref sa, .int p1, .int p2, .int (p3 + 1)]) hS hA
    refine ⟨.ref a, rfl, a, _, 0, _, rfl, rfl, .inl (.inl upd_same), rfl, .ref a, rfl, a, _, 1, _, rfl, rfl, .inl (.inl upd_same), rfl, .ref a, rfl, a, _, 3, _, rfl, rfl, .inl (.inl upd_same), rfl, sa, _, _, ns, rfl, hS1, hl, fun r => ?_⟩
    refine ⟨.ref a, rfl, a, _, 2, 2, rfl, rfl, upd_same, rfl, ?_⟩
    refine ⟨.ref a, rfl, a, _, 2, _, rfl, rfl, .inl (.inl upd_same), rfl, .inl ⟨_, rfl, _, rfl, _, _, rfl, rfl, h0, ?_⟩⟩
    refine ⟨.ref a, rfl, a, _, 2, _, rfl, rfl, .inl (.inl upd_same), rfl, .inl ⟨_, rfl, _, rfl, _, _, rfl, rfl, ⟨h0, h1⟩, .ref a, rfl, a, _, 2, 2, rfl, rfl, upd_same, rfl, ?_⟩⟩
    refine ⟨_, rfl, ?_⟩
    rw [upd_upd, upd_upd]
    exact q _ _ _ (Int.emod_nonneg _ (by omega)) (Int.emod_lt_of_pos _ h0)
  · refine ⟨.ref a, rfl, a, _, 2, _, rfl, rfl, .inl (.inl hA), rfl, .inl ⟨_, rfl, _, rfl, _, _, rfl, rfl, h0, ?_⟩⟩
    refine ⟨.ref a, rfl, a, _, 2, _, rfl, rfl, .inl (.inl hA), rfl, .inl ⟨_, rfl, _, rfl, _, _, rfl, rfl, ⟨h0, h1⟩, .ref a, rfl, a, _, 2, 2, rfl, rfl, hA, rfl, ?_⟩⟩
    exact ⟨_, rfl, q _ _ _ (Int.emod_nonneg _ (by omega)) (Int.emod_lt_of_pos _ h0)⟩
end

/-! ### one of many -/
abbrev s_law_pick : Stmt := topS 14
theorem sc_law_pick : FnScope ["pool", "options"] ["pool", "options"] (defScope s_law_pick) := ⟨rfl, rfl, rfl, by decide +kernel, rfl, by decide +kernel, by decide +kernel⟩
section
variable {P : Program} {w : World} {K : Fg} {mg : Str → Option Value} {base : Heap}
def pPick (K : Fg) : Prom := fun cs Q => ∃ (sa : Addr) (ds : List D), cs = [.mo (PoolI K sa), .sh (.list ds)] ∧ 0 < ds.length ∧ ds.length < 1000 ∧ ∀ d ∈ ds, Q d
theorem ok_pick (D : Df K mg "_law_pick" s_law_pick ["pool", "options"]) (c_law_draw : Cal P w K mg base "_law_draw" 3 ["pool", "limit"] (pDraw K)) (m_len : mg "len" = none) : Cal P w K mg base "_law_pick" 4 ["pool", "options"] (pPick K) := by
  have nd := sc_law_pick.nd
  refine cal_ok D sc_law_pick (fun cs Q ⟨sa, ds, h, _⟩ => by rw [h]; rfl) (fun f cdv A outer s H E hr => ⟨_, by exact
(vss_one (vs_ret (vc_ix (se_var (pv 1)) (vc_cal c_law_draw (hr.mono (by decide)) (va_cons (vc_var (pv 0)) (va_cons (vc_len (se_var (pv 1)) (by rfl) m_len) va_nil))).se)))
    , fun cs Q ⟨sa, ds, hc, h0, h1, q⟩ => ?_⟩)
  subst hc
  refine fun _ => ⟨sa, _, rfl, by omega, by omega, fun v v0 v1 => ?_⟩
  obtain ⟨n, rfl⟩ := Int.eq_ofNat_of_zero_le v0
  have hv : n < ds.length := by omega
  exact ⟨ds[n], atI_nat (List.getElem?_eq_getElem hv), q _ (List.getElem_mem hv)⟩
end

/-! ### layouts -/
theorem lay_all : ∀ {ds : List PyData}, (∀ d ∈ ds, d.canLay0 = true) → PyData.canLayAll0 ds = true
  | [], _ => by simp [PyData.canLayAll0]
  | d :: ds, h => by
    rw [PyData.canLayAll0, h d List.mem_cons_self, lay_all fun x m => h x (List.mem_cons_of_mem _ m)]
    rfl
theorem dep_all {n : Nat} : ∀ {ds : List PyData}, (∀ d ∈ ds, d.depth ≤ n) → PyData.depthAll ds ≤ n
  | [], _ => by simp [PyData.depthAll]
  | d :: ds, h => by
    rw [PyData.depthAll]
    have h1 := h d List.mem_cons_self
    have h2 := dep_all fun x m => h x (List.mem_cons_of_mem _ m)
    omega

/-! ### encodings -/
abbrev eI (ns : List Int) : D := .list (ns.map .int)
abbrev eT (t : List (List Int)) : D := .list (t.map eI)
def eO : Option Int → D
  | none => .none
  | some i => .int i
/-! ### placed -/
def placedN : List Int → Int → List Int × Option Int
  | [], n => ([n], none)
  | x :: r, n => if n < x then (n :: r, some x) else (x :: (placedN r n).1, (placedN r n).2)
theorem placed_at : ∀ (row : List Int) (n : Int) (i : Nat) (x : Int), (∀ j y, j < i → row[j]? = some y → ¬ n < y) → row[i]? = some x → n < x → placedN row n = (row.take i ++ n :: row.drop (i + 1), some x)
  | [], _, _, _, _, h, _ => by simp at h
  | y :: r, n, 0, x, _, h, hx => by
    have e : y = x := by simpa using h
    subst e
    simp [placedN, hx]
  | y :: r, n, i + 1, x, hp, h, hx => by
    have h0 : ¬ n < y := hp 0 y (by omega) (by simp)
    have ih := placed_at r n i x (fun j z hj hz => hp (j + 1) z (by omega) (by simpa using hz)) (by simpa using h) hx
    simp [placedN, h0, ih]
theorem placed_no : ∀ (row : List Int) (n : Int), (∀ (j : Nat) (y : Int), row[j]? = some y → ¬ n < y) → placedN row n = (row ++ [n], none)
  | [], _, _ => rfl
  | y :: r, n, hp => by
    have h0 : ¬ n < y := hp 0 y (by simp)
    have ih := placed_no r n (fun j z hz => hp (j + 1) z (by simpa using hz))
    simp [placedN, h0, ih]
def pPlaced : Prom := fun cs Q => ∃ (row : List Int) (n : Int), cs = [.sh (eI row), .sh (.int n)] ∧ row.length ≤ 1000 ∧ Q (.tuple [eI (placedN row n).1, eO (placedN row n).2])
abbrev s_placed : Stmt := topS 1
theorem sc_placed : FnScope ["row", "number", "at", "other"] ["row", "number"] (defScope s_placed) := ⟨rfl, rfl, rfl, by decide +kernel, rfl, by decide +kernel, by decide +kernel⟩
section
variable {P : Program} {w : World} {K : Fg} {mg : Str → Option Value} {base : Heap}
theorem ok_placed (D : Df K mg "placed" s_placed ["row", "number"]) (m_enumerate : mg "enumerate" = none) : Cal P w K mg base "placed" 1 ["row", "number"] pPlaced := by
  have nd := sc_placed.nd
  refine cal_ok D sc_placed (fun cs Q ⟨row, n, h, _⟩ => by rw [h]; rfl) (fun f cdv A outer s H E hr => ⟨_, by exact
(vss_cons (vs_for (vi_enu (vc_var (pv 0)) (by rfl) m_enumerate) (vn_tup (n := 2) (vns_cons (vn_name (n := 2) nd rfl) (vns_cons (vn_name (n := 3) nd rfl) vns_nil))).vg
      (vss_one (vs_if (vb_cmp op_gt ok_gt (se_var (pv 3)) (se_var (pv 1)))
        (vss_one (vs_ret (vc_tup (vl_cons (vc_add (vc_add (vc_sl (se_var (pv 0)) vo_none (vo_some (se_var (pv 2)))).se (vc_lst (vl_cons (vc_var (pv 1)) vl_nil)).se).se (vc_sl (se_var (pv 0)) (vo_some (vc_add (se_var (pv 2)) vc_int.se).se) vo_none).se) (vl_cons (vc_var (pv 3)) vl_nil)))))
        vss_nil)))
    (vss_one (vs_ret (vc_tup (vl_cons (vc_add (se_var (pv 0)) (vc_lst (vl_cons (vc_var (pv 1)) vl_nil)).se) (vl_cons vc_non vl_nil))))))
    , fun cs Q ⟨row, n, hc, hl, q⟩ => ?_⟩)
  subst hc
  refine ⟨fun i ρ => ∃ c2 c3, ρ = [.sh (eI row), .sh (.int n), c2, c3] ∧ ∀ j y, j < i → row[j]? = some y → ¬ n < y, ⟨_, _, rfl, fun j y h => absurd h (by omega)⟩, fun i x ρ hx ⟨c2, c3, hρ, hp⟩ => ?_, fun ρ ⟨c2, c3, hρ, hp⟩ => ?_⟩
  · subst hρ
    obtain ⟨d, hd, rfl⟩ := enu_get hx
    obtain ⟨z, hz, rfl⟩ := map_get hd
    have hi := lt_of_get hz
    refine ⟨rfl, rfl, ite2 (fun e => ?_) (fun e => ?_)⟩
    · have e1 : n < z := of_decide_eq_true e
      have b1 : (slD (row.map PyData.int) none (some (i : Int))).length ≤ 1000 := by rw [slD_take]; simp; omega
      have b2 : (slD (row.map PyData.int) (some ((i : Int) + 1)) none).length ≤ 1000 := by rw [slD_drop1]; simp; omega
      refine ⟨sz (by simp), sz (by simp; omega), sz (by simp at b1 b2 ⊢; omega), sz (by simp), ?_⟩
      show Q _
      rw [placed_at row n i z hp hz e1] at q
      rw [slD_take, slD_drop1]
      simpa [eI, eO, List.map_take, List.map_drop] using q
    · exact ⟨_, _, rfl, fun j y hj hy => by
        rcases Nat.lt_succ_iff_lt_or_eq.mp hj with h | h
        · exact hp j y h hy
        · subst h
          rw [hz] at hy
          cases hy
          exact fun h => e (decide_eq_true h)⟩
  · subst hρ
    rw [enuD_len, List.length_map] at hp
    refine ⟨sz (by simp), sz (by simp; omega), sz (by simp), ?_⟩
    show Q _
    rw [placed_no row n fun j y h => hp j y (lt_of_get h) h] at q
    simpa [eI, eO, List.map_take, List.map_drop] using q
end

/-! ### inserted -/
def insN : List (List Int) → Int → List (List Int) × Nat
  | [], n => ([[n]], 0)
  | row :: rest, n => match (placedN row n).2 with
    | none => ((placedN row n).1 :: rest, 0)
    | some m => ((placedN row n).1 :: (insN rest m).1, (insN rest m).2 + 1)
def pInserted : Prom := fun cs Q => ∃ (t : List (List Int)) (n : Int), cs = [.sh (eT t), .sh (.int n)] ∧ t.length ≤ 1000 ∧ (∀ row ∈ t, row.length ≤ 999) ∧ Q (.tuple [eT (insN t n).1, .int (insN t n).2])
abbrev s_inserted : Stmt := topS 2
theorem sc_inserted : FnScope ["table", "number", "found", "at", "row", "new", "other"] ["table", "number"] (defScope s_inserted) := ⟨rfl, rfl, rfl, by decide +kernel, rfl, by decide +kernel, by decide +kernel⟩
section
variable {P : Program} {w : World} {K : Fg} {mg : Str → Option Value} {base : Heap}
theorem ok_inserted (D : Df K mg "inserted" s_inserted ["table", "number"]) (c_placed : Cal P w K mg base "placed" 1 ["row", "number"] pPlaced) (m_enumerate : mg "enumerate" = none) (m_list : mg "list" = none) (m_len : mg "len" = none) : Cal P w K mg base "inserted" 2 ["table", "number"] pInserted := by
  have nd := sc_inserted.nd
  refine cal_ok D sc_inserted (fun cs Q ⟨t, n, h, _⟩ => by rw [h]; rfl) (fun f cdv A outer s H E hr => ⟨_, by exact
(vss_cons (vs_set (n := 2) nd rfl (vc_lst vl_nil))
    (vss_cons (vs_for (vi_enu (vc_var (pv 0)) (by rfl) m_enumerate) (vn_tup (n := 2) (vns_cons (vn_name (n := 3) nd rfl) (vns_cons (vn_name (n := 4) nd rfl) vns_nil))).vg
      (vss_cons (vs_asg (vc_cal c_placed (hr.mono (by decide)) (va_cons (vc_var (pv 4)) (va_cons (vc_var (pv 1)) va_nil))) (vn_tup (n := 2) (vns_cons (vn_name (n := 5) nd rfl) (vns_cons (vn_name (n := 1) nd rfl) vns_nil))).vg)
      (vss_cons (vs_append 2 (pv 2) (vc_var (pv 5)))
      (vss_one (vs_if (vb_cmp op_isN ok_is (se_var (pv 1)) vc_non.se)
        (vss_one (vs_ret (vc_tup (vl_cons (vc_add (se_var (pv 2)) (vc_lc (own := [("other", 6)]) nd (vj_seq (vc_sl (se_var (pv 0)) (vo_some (vc_add (se_var (pv 3)) vc_int.se).se) vo_none).se) (blk_ok (N := ["table", "number", "found", "at", "row", "new", "other"]) (sc := defScope s_inserted) (by decide +kernel)) (fun _ _ _ _ _ => (vn_name (n := 6) nd rfl)) (fun _ _ _ _ _ => vts_nil) (fun _ _ _ _ _ => (vc_list (se_var (pv 6)) (by rfl) m_list))).se) (vl_cons (vc_var (pv 3)) vl_nil)))))
        vss_nil)))))
    (vss_one (vs_ret (vc_tup (vl_cons (vc_add (se_var (pv 2)) (vc_lst (vl_cons (vc_lst (vl_cons (vc_var (pv 1)) vl_nil)) vl_nil)).se) (vl_cons (vc_len (se_var (pv 0)) (by rfl) m_len) vl_nil)))))))
    , fun cs Q ⟨t, n, hc, hl, hrow, q⟩ => ?_⟩)
  subst hc
  refine ⟨sz (by simp), ?_⟩
  refine ⟨fun i ρ => ∃ (m : Int) (done : List (List Int)) (c3 c4 c5 c6 : C), ρ = [.sh (eT t), .sh (.int m), .ol (done.map eI), c3, c4, c5, c6] ∧ done.length = i ∧ insN t n = (done ++ (insN (t.drop i) m).1, i + (insN (t.drop i) m).2),
    ⟨n, [], _, _, _, _, rfl, rfl, by simp⟩, fun i x ρ hx ⟨m, done, c3, c4, c5, c6, hρ, hd, he⟩ => ?_, fun ρ ⟨m, done, c3, c4, c5, c6, hρ, hd, he⟩ => ?_⟩
  · subst hρ
    obtain ⟨d, hd', rfl⟩ := enu_get hx
    obtain ⟨row, hz, rfl⟩ := map_get hd'
    have hi := lt_of_get hz
    have hr' := hrow row (List.mem_of_getElem? hz)
    have hdrop : t.drop i = row :: t.drop (i + 1) := by
      rw [List.drop_eq_getElem_cons hi]
      congr 1
      rw [List.getElem?_eq_getElem hi] at hz
      exact Option.some.inj hz
    refine ⟨rfl, rfl, row, m, rfl, by omega, rfl, rfl, sz' (by simp; omega), by simp, ?_⟩
    rw [hdrop] at he
    cases hp : (placedN row m).2 with
    | none =>
      refine ⟨sz (by rw [slD_drop1]; simp; omega), ?_⟩
      refine lc_all eI eI (t.drop (i + 1)) (by rw [slD_drop1, List.map_drop]) (fun a ha k1 k2 h1 => iteT h1) ⟨sz (by simp; omega), sz (by simp), ?_⟩
      show Q _
      have e1 : insN t n = (done ++ ((placedN row m).1 :: t.drop (i + 1)), i + 0) := by
        rw [he]; simp [insN, hp]
      rw [e1] at q
      simpa [eI, eT] using q
    | some z =>
      refine ⟨z, done ++ [(placedN row m).1], _, _, _, _, by rw [List.map_append]; rfl, by simp [hd], ?_⟩
      rw [he]
      simp [insN, hp]
      omega
  · subst hρ
    rw [enuD_len, List.length_map] at hd he
    rw [List.drop_length] at he
    refine ⟨sz (by simp), sz (by simp), sz (by simp; omega), fun _ => ⟨sz (by simp), ?_⟩⟩
    show Q _
    rw [he] at q
    simpa [eI, eT, insN] using q
end

/-! ### tables_of -/
theorem placedN_len : ∀ (row : List Int) (n : Int), (placedN row n).1.length ≤ row.length + 1
  | [], _ => by simp [placedN]
  | x :: r, n => by
    have ih := placedN_len r n
    unfold placedN
    split
    · simp
    · simp; omega
theorem insN_le : ∀ (t : List (List Int)) (n : Int), (insN t n).2 ≤ t.length
  | [], _ => by simp [insN]
  | row :: r, n => by
    unfold insN
    split
    · simp
    · rename_i m _
      have ih := insN_le r m
      simp; omega
theorem insN_len : ∀ (t : List (List Int)) (n : Int), (insN t n).1.length = if (insN t n).2 = t.length then t.length + 1 else t.length
  | [], _ => by simp [insN]
  | row :: r, n => by
    unfold insN
    split
    · simp
    · rename_i m _
      have ih := insN_len r m
      have h := insN_le r m
      simp only [List.length_cons, ih]
      split <;> split <;> omega
theorem insN_rows {M : Nat} : ∀ (t : List (List Int)) (n : Int), (∀ row ∈ t, row.length ≤ M) → ∀ row ∈ (insN t n).1, row.length ≤ M + 1
  | [], n, _, row, hm => by
    have : row = [n] := by simpa [insN] using hm
    subst this
    simp
  | r0 :: r, n, h, row, hm => by
    have h0 := h r0 List.mem_cons_self
    have h1 : ∀ row ∈ r, row.length ≤ M := fun row m => h row (List.mem_cons_of_mem _ m)
    unfold insN at hm
    split at hm
    · rcases List.mem_cons.mp hm with rfl | hm
      · have := placedN_len r0 n; omega
      · have := h1 row hm; omega
    · rename_i m _
      rcases List.mem_cons.mp hm with rfl | hm
      · have := placedN_len r0 n; omega
      · exact insN_rows r m h1 row hm
def sec0 (s : List (List Int)) (k : Nat) : List (List Int) := if k = s.length then s ++ [[]] else s
def secN (s : List (List Int)) (k : Nat) (x : Int) : List (List Int) := (sec0 s k).take k ++ [(sec0 s k).getD k [] ++ [x]] ++ (sec0 s k).drop (k + 1)
def tabStep (st : List (List Int) × List (List Int)) (p : Int × Int) : List (List Int) × List (List Int) := ((insN st.1 p.2).1, secN st.2 (insN st.1 p.2).2 p.1)
def tabN (qs : List (Int × Int)) : List (List Int) × List (List Int) := qs.foldl tabStep ([], [])
structure TabOk (st : List (List Int) × List (List Int)) (i : Nat) : Prop where
  l1 : st.1.length ≤ i
  l2 : st.2.length = st.1.length
  r1 : ∀ row ∈ st.1, row.length ≤ i
  r2 : ∀ row ∈ st.2, row.length ≤ i
theorem sec0_lt {s : List (List Int)} {k : Nat} (h : k ≤ s.length) : k < (sec0 s k).length := by
  unfold sec0
  split
  · simp; omega
  · omega
theorem sec0_len (s : List (List Int)) (k : Nat) : (sec0 s k).length = if k = s.length then s.length + 1 else s.length := by
  unfold sec0
  split <;> simp
theorem sec0_rows {M : Nat} {s : List (List Int)} {k : Nat} (h : ∀ row ∈ s, row.length ≤ M) : ∀ row ∈ sec0 s k, row.length ≤ M := by
  unfold sec0
  split
  · intro row m
    rcases List.mem_append.mp m with m | m
    · exact h row m
    · have : row = [] := by simpa using m
      subst this; simp
  · exact h
theorem tab_step {st : List (List Int) × List (List Int)} {i : Nat} {p : Int × Int} (h : TabOk st i) : TabOk (tabStep st p) (i + 1) := by
  have hk := insN_le st.1 p.2
  have hl := insN_len st.1 p.2
  have h2 : (insN st.1 p.2).2 ≤ st.2.length := by rw [h.l2]; exact hk
  have hs := sec0_lt h2
  have hsl := sec0_len st.2 (insN st.1 p.2).2
  refine ⟨?_, ?_, ?_, ?_⟩
  · show (insN st.1 p.2).1.length ≤ i + 1
    have := h.l1
    rw [hl]; split <;> omega
  · show (secN st.2 (insN st.1 p.2).2 p.1).length = (insN st.1 p.2).1.length
    unfold secN
    rw [hl, ← h.l2]
    simp only [List.length_append, List.length_take, List.length_drop, List.length_cons, List.length_nil]
    rw [hsl] at hs ⊢
    split at hs <;> split <;> omega
  · exact insN_rows st.1 p.2 h.r1
  · show ∀ row ∈ secN st.2 (insN st.1 p.2).2 p.1, row.length ≤ i + 1
    have hr := sec0_rows (k := (insN st.1 p.2).2) h.r2
    intro row m
    unfold secN at m
    rcases List.mem_append.mp m with m | m
    · rcases List.mem_append.mp m with m | m
      · have := hr row (List.mem_of_mem_take m); omega
      · have e : row = (sec0 st.2 (insN st.1 p.2).2).getD (insN st.1 p.2).2 [] ++ [p.1] := by simpa using m
        rw [List.getD_eq_getElem?_getD, List.getElem?_eq_getElem hs] at e
        have := hr _ (List.getElem_mem hs)
        rw [e]
        simp
        exact this
    · have := hr row (List.mem_of_mem_drop m); omega
theorem tab_ok (qs : List (Int × Int)) : ∀ i, TabOk ((qs.take i).foldl tabStep ([], [])) i
  | 0 => ⟨by simp, rfl, by simp, by simp⟩
  | i + 1 => by
    by_cases hi : i < qs.length
    · rw [List.take_add_one, List.foldl_append, List.getElem?_eq_getElem hi]
      exact tab_step (tab_ok qs i)
    · have h := tab_ok qs i
      rw [List.take_of_length_le (by omega)] at h ⊢
      exact ⟨by have := h.l1; omega, h.l2, fun r m => by have := h.r1 r m; omega, fun r m => by have := h.r2 r m; omega⟩
def pTables : Prom := fun cs Q => ∃ ps : List (Int × Int), cs = [.sh (.list (ps.map eP))] ∧ ps.length ≤ 900 ∧ ∀ qs : List (Int × Int), qs.Perm ps → (qs.Pairwise fun p q => ¬ lexP q p = true) → Q (.tuple [eT (tabN qs).1, eT (tabN qs).2])
abbrev s_tables_of : Stmt := topS 3
theorem sc_tables_of : FnScope ["points", "first", "second", "x", "y", "at"] ["points"] (defScope s_tables_of) := ⟨rfl, rfl, rfl, by decide +kernel, rfl, by decide +kernel, by decide +kernel⟩
section
variable {P : Program} {w : World} {K : Fg} {mg : Str → Option Value} {base : Heap}
theorem ok_tables (D : Df K mg "tables_of" s_tables_of ["points"]) (c_inserted : Cal P w K mg base "inserted" 2 ["table", "number"] pInserted) (m_sorted : mg "sorted" = none) (m_len : mg "len" = none) : Cal P w K mg base "tables_of" 3 ["points"] pTables := by
  have nd := sc_tables_of.nd
  refine cal_ok D sc_tables_of (fun cs Q ⟨ps, h, _⟩ => by rw [h]; rfl) (fun f cdv A outer s H E hr => ⟨_, by exact
(vss_cons (vs_set (n := 1) nd rfl (vc_lst vl_nil))
    (vss_cons (vs_set (n := 2) nd rfl (vc_lst vl_nil))
    (vss_cons (vs_frz 1 (vs_for (vi_seq (vc_sortP (se_var (pv 0)) (by rfl) m_sorted)) (vn_tup (n := 2) (vns_cons (vn_name (n := 3) nd rfl) (vns_cons (vn_name (n := 4) nd rfl) vns_nil))).vg
      (vss_cons (vs_frz 1 (vs_asg (vc_cal c_inserted (hr.mono (by decide)) (va_cons (vc_var (pv 1)) (va_cons (vc_var (pv 4)) va_nil))) (vn_tup (n := 2) (vns_cons (vn_name (n := 1) nd rfl) (vns_cons (vn_name (n := 5) nd rfl) vns_nil))).vg))
      (vss_cons (vs_if (vb_cmp (op_eqA hr.units) ok_eq (se_var (pv 5)) (vc_len (se_var (pv 2)) (by rfl) m_len).se)
        (vss_one (vs_set (n := 2) nd rfl (vc_add (se_var (pv 2)) (vc_lst (vl_cons (vc_lst vl_nil) vl_nil)).se)))
        vss_nil)
      (vss_one (vs_set (n := 2) nd rfl (vc_add (vc_add (vc_sl (se_var (pv 2)) vo_none (vo_some (se_var (pv 5)))).se (vc_lst (vl_cons (vc_add (vc_ix (se_var (pv 2)) (se_var (pv 5))).se (vc_lst (vl_cons (vc_var (pv 3)) vl_nil)).se) vl_nil)).se).se (vc_sl (se_var (pv 2)) (vo_some (vc_add (se_var (pv 5)) vc_int.se).se) vo_none).se)))))))
    (vss_one (vs_frz 2 (vs_frz 1 (vs_ret (vc_tup (vl_cons (vc_var (pv 1)) (vl_cons (vc_var (pv 2)) vl_nil))))))))))
    , fun cs Q ⟨ps, hc, hl, q⟩ => ?_⟩)
  subst hc
  refine ⟨sz (by simp), sz (by simp), ps, rfl, fun qs hq hs => ?_⟩
  have q := q qs hq hs
  have hql : qs.length ≤ 900 := by rw [hq.length_eq]; exact hl
  refine ⟨fun i ρ => ∃ c3 c4 c5, ρ = [.sh (.list (ps.map eP)), .sh (eT ((qs.take i).foldl tabStep ([], [])).1), .ol (((qs.take i).foldl tabStep ([], [])).2.map eI), c3, c4, c5], ⟨_, _, _, rfl⟩, fun i x ρ hx ⟨c3, c4, c5, hρ⟩ => ?_, fun ρ ⟨c3, c4, c5, hρ⟩ => ?_⟩
  · subst hρ
    obtain ⟨p, hz, rfl⟩ := map_get hx
    have hi := lt_of_get hz
    have tk := tab_ok qs i
    have stp : (qs.take (i + 1)).foldl tabStep ([], []) = tabStep ((qs.take i).foldl tabStep ([], [])) p := by
      rw [List.take_add_one, List.foldl_append, hz]; rfl
    generalize hst : (qs.take i).foldl tabStep ([], []) = st at tk stp
    refine ⟨rfl, rfl, st.1, p.2, rfl, by have := tk.l1; omega, fun row m => by have := tk.r1 row m; omega, rfl, rfl, ?_⟩
    have hk := insN_le st.1 p.2
    rw [← tk.l2] at hk
    have hlt := sec0_lt hk
    have hr0 := sec0_rows (k := (insN st.1 p.2).2) tk.r2
    have hsl : (sec0 st.2 (insN st.1 p.2).2).length ≤ 1000 := by
      have := tk.l1
      have := tk.l2
      rw [sec0_len]; split <;> omega
    generalize hkk : (insN st.1 p.2).2 = k at hk hlt hr0 hsl stp ⊢
    have hat : atI ((sec0 st.2 k).map eI) (k : Int) = some (eI ((sec0 st.2 k).getD k [])) := by
      apply atI_nat
      rw [List.getElem?_map, List.getD_eq_getElem?_getD, List.getElem?_eq_getElem hlt]
      rfl
    have hrk : ((sec0 st.2 k).getD k []).length ≤ i := by
      rw [List.getD_eq_getElem?_getD, List.getElem?_eq_getElem hlt]
      exact hr0 _ (List.getElem_mem hlt)
    have b1 : (slD ((sec0 st.2 k).map eI) none (some (k : Int))).length ≤ 1000 := by rw [slD_take]; simp; omega
    have b2 : (slD ((sec0 st.2 k).map eI) (some ((k : Int) + 1)) none).length ≤ 1000 := by rw [slD_drop1]; simp; omega
    have e3 : slD ((sec0 st.2 k).map eI) none (some (k : Int)) ++ [PyData.list (((sec0 st.2 k).getD k []).map PyData.int ++ [.int p.1])] ++ slD ((sec0 st.2 k).map eI) (some ((k : Int) + 1)) none = (secN st.2 k p.1).map eI := by
      rw [slD_take, slD_drop1]
      simp [secN, eI, List.map_take, List.map_drop]
    have e4 : (tabStep st p).2 = secN st.2 k p.1 := by rw [← hkk]; rfl
    refine fun _ => itd (fun e => ?_) (fun e => ?_)
    · have e' : k = st.2.length := by
        have e : (k : Int) = ((st.2.map eI).length : Nat) := e
        rw [List.length_map] at e
        omega
      have e2 : st.2.map eI ++ [PyData.list []] = (sec0 st.2 k).map eI := by simp [sec0, e', eI]
      refine ⟨sz (by simp), sz (by simp), sz (by have := tk.l1; have := tk.l2; simp; omega), ?_⟩
      rw [e2]
      refine ⟨_, hat, sz (by simp), sz (by simp only [List.length_append, List.length_map, List.length_cons, List.length_nil] at *; omega), sz (by simp), sz (by simp only [List.length_append, List.length_map, List.length_cons, List.length_nil] at *; omega), sz (by simp only [List.length_append, List.length_map, List.length_cons, List.length_nil] at *; omega), ?_⟩
      refine ⟨.sh (.int p.1), .sh (.int p.2), .sh (.int k), ?_⟩
      rw [stp, e4, ← e3]
      rfl
    · have e' : ¬ k = st.2.length := fun h => e (by rw [List.length_map, h])
      have e2 : st.2.map eI = (sec0 st.2 k).map eI := by simp [sec0, e']
      rw [e2]
      refine ⟨_, hat, sz (by simp), sz (by simp only [List.length_append, List.length_map, List.length_cons, List.length_nil] at *; omega), sz (by simp), sz (by simp only [List.length_append, List.length_map, List.length_cons, List.length_nil] at *; omega), sz (by simp only [List.length_append, List.length_map, List.length_cons, List.length_nil] at *; omega), ?_⟩
      refine ⟨.sh (.int p.1), .sh (.int p.2), .sh (.int k), ?_⟩
      rw [stp, e4, ← e3]
      rfl
  · subst hρ
    refine ⟨sz (by simp), ?_⟩
    show Q _
    rw [List.length_map, List.take_length] at *
    exact q
end

/-! ### shape, columns -/
def shapeN (t : List (List Int)) : List Int := t.map fun r => (r.length : Int)
def pShape : Prom := fun cs Q => ∃ t : List (List Int), cs = [.sh (eT t)] ∧ t.length ≤ 1000 ∧ Q (eI (shapeN t))
def colAt (told : List Int) (i : Nat) : Int := ((told.filter fun l => decide ((i : Int) < l)).length : Int)
def colN (told : List Int) : List Int := match told with
  | [] => []
  | l :: r => (List.range l.toNat).map fun i => colAt (l :: r) i
def pColumns : Prom := fun cs Q => ∃ told : List Int, cs = [.sh (eI told)] ∧ told.length ≤ 1000 ∧ (∀ l ∈ told, 0 ≤ l ∧ l ≤ 1000) ∧ Q (eI (colN told))
abbrev s_shape : Stmt := topS 6
theorem sc_shape : FnScope ["table", "row"] ["table"] (defScope s_shape) := ⟨rfl, rfl, rfl, by decide +kernel, rfl, by decide +kernel, by decide +kernel⟩
abbrev s_columns : Stmt := topS 7
theorem sc_columns : FnScope ["told", "length", "at"] ["told"] (defScope s_columns) := ⟨rfl, rfl, rfl, by decide +kernel, rfl, by decide +kernel, by decide +kernel⟩
section
variable {P : Program} {w : World} {K : Fg} {mg : Str → Option Value} {base : Heap}
theorem ok_shape (D : Df K mg "shape" s_shape ["table"]) (m_len : mg "len" = none) : Cal P w K mg base "shape" 1 ["table"] pShape := by
  have nd := sc_shape.nd
  refine cal_ok D sc_shape (fun cs Q ⟨ps, h, _⟩ => by rw [h]; rfl) (fun f cdv A outer s H E hr => ⟨_, by exact
(vss_one (vs_ret (vc_lc (own := [("row", 1)]) nd (vj_seq (se_var (pv 0))) (blk_ok (N := ["table", "row"]) (sc := defScope s_shape) (by decide +kernel)) (fun _ _ _ _ _ => (vn_name (n := 1) nd rfl)) (fun _ _ _ _ _ => vts_nil) (fun _ _ _ _ _ => (vc_len (se_var (pv 1)) (by rfl) m_len)))))
    , fun cs Q ⟨t, hc, hl, q⟩ => ?_⟩)
  subst hc
  refine ⟨sz (by simp; omega), ?_⟩
  refine lc_all eI (fun r => .int (r.length : Int)) t rfl (fun a ha k1 k2 h1 => iteT fun _ => by rw [List.length_map]; exact h1) ?_
  show Q _
  simpa [shapeN, eI, Function.comp_def] using q
theorem ok_columns (D : Df K mg "columns" s_columns ["told"]) (m_len : mg "len" = none) (m_range : mg "range" = none) : Cal P w K mg base "columns" 1 ["told"] pColumns := by
  have nd := sc_columns.nd
  refine cal_ok D sc_columns (fun cs Q ⟨ps, h, _⟩ => by rw [h]; rfl) (fun f cdv A outer s H E hr => ⟨_, by exact
(vss_one (vs_ret (vc_if (vb_tru (se_var (pv 0))) (vc_lc (own := [("at", 2)]) nd (vi_rng1 (vc_ix (se_var (pv 0)) vc_int.se).se (by rfl) m_range).vj (blk_ok (N := ["told", "length", "at"]) (sc := defScope s_columns) (by decide +kernel)) (fun _ _ _ _ _ => (vn_name (n := 2) nd rfl)) (fun _ _ _ _ _ => vts_nil) (fun _ _ _ _ _ => (vc_len (vc_lc (own := [("length", 1)]) nd (vj_seq (se_var (pv 0))) (blk_ok (N := ["told", "length", "at"]) (sc := relS _ (defScope s_columns)) (by decide +kernel)) (fun _ _ _ _ _ => (vn_name (n := 1) nd rfl)) (fun _ _ _ _ _ => (vts_one (vb_cmp op_gt ok_gt (se_var (pv 1)) (se_var (pv 2))))) (fun _ _ _ _ _ => (vc_var (pv 1)))).se (by rfl) m_len))) (vc_lst vl_nil))))
    , fun cs Q ⟨told, hc, hl, hb, q⟩ => ?_⟩)
  subst hc
  cases told with
  | nil => exact ⟨sz (by simp), q⟩
  | cons l r =>
    have hl0 := hb l List.mem_cons_self
    refine ⟨.int l, atI_nat (j := 0) rfl, by omega, by omega, sz (by simp [rngD]; omega), ?_⟩
    refine lc_all (fun i : Nat => .int (i : Int)) (fun i => .int (colAt (l :: r) i)) (List.range l.toNat) rng_map (fun i hi k1 k2 h1 => iteT ?_) ?_
    · refine ⟨sz (by simp at hl ⊢; omega), ?_⟩
      refine lc_map .int .int (fun x => decide ((i : Int) < x)) (l :: r) rfl (fun a ha k1 k2 h1 h2 => itd (fun e => h1 (decide_eq_true e)) fun e => h2 (decide_eq_false e)) ?_
      intro _
      rw [List.length_map]
      exact h1
    · show Q _
      simpa [colN, eI, Function.comp_def] using q
end

/-! ### taken out, points again: the walks -/
/-- the last that is below -/
def ubN : List Int → Int → Option (List Int × Int)
  | [], _ => none
  | x :: r, n => match ubN r n with
    | some (r', y) => some (x :: r', y)
    | none => if x < n then some (n :: r, x) else none
theorem ub_place : ∀ (row : List Int) (n : Int) (r' : List Int) (y : Int), ubN row n = some (r', y) → ∃ p, row[p]? = some y ∧ y < n ∧ (∀ j x, p < j → row[j]? = some x → ¬ x < n) ∧ r' = row.set p n
  | [], _, _, _, h => by simp [ubN] at h
  | x :: r, n, r', y, h => by
    unfold ubN at h
    cases hr : ubN r n with
    | some q =>
      obtain ⟨r2, y2⟩ := q
      rw [hr] at h
      cases h
      obtain ⟨p, h1, h2, h3, h4⟩ := ub_place r n _ _ hr
      refine ⟨p + 1, by simpa using h1, h2, fun j z hj hz => ?_, by rw [h4]; rfl⟩
      cases j with
      | zero => omega
      | succ j => exact h3 j z (by omega) (by simpa using hz)
    | none =>
      rw [hr] at h
      by_cases hx : x < n
      · simp only [if_pos hx] at h
        cases h
        refine ⟨0, rfl, hx, fun j z hj hz => ?_, rfl⟩
        cases j with
        | zero => omega
        | succ j =>
          have none_all : ∀ (r : List Int), ubN r n = none → ∀ z ∈ r, ¬ z < n := by
            intro r
            induction r with
            | nil => intro _ z hz; cases hz
            | cons w r ih =>
              intro hr z hz
              unfold ubN at hr
              cases hq : ubN r n with
              | some q => rw [hq] at hr; cases hr
              | none =>
                rw [hq] at hr
                rcases List.mem_cons.mp hz with rfl | hz
                · intro hlt; simp [hlt] at hr
                · exact ih hq z hz
          exact none_all r hr z (List.mem_of_getElem? (by simpa using hz))
      · simp [hx] at h
/-- rows above first: the table and the number that come out of row k -/
def tkN : List (List Int) → Nat → Option (List (List Int) × Int)
  | [], _ => none
  | row :: rest, 0 => (row[row.length - 1]?).map fun y => (row.dropLast :: rest, y)
  | row :: rest, k + 1 => (tkN rest k).bind fun q => (ubN row q.2).map fun z => (z.1 :: q.1, z.2)
theorem tk_succ {row : List Int} {rest : List (List Int)} {k : Nat} {T : List (List Int)} {n : Int} (h : tkN (row :: rest) (k + 1) = some (T, n)) : ∃ rest' n' row', tkN rest k = some (rest', n') ∧ ubN row n' = some (row', n) ∧ T = row' :: rest' := by
  unfold tkN at h
  obtain ⟨q, h1, h2⟩ := Option.bind_eq_some_iff.mp h
  obtain ⟨z, h3, h4⟩ := Option.map_eq_some_iff.mp h2
  cases h4
  exact ⟨q.1, q.2, z.1, h1, h3, rfl⟩
def full (t : List (List Int)) : List (List Int) := t.filter fun r => !r.isEmpty
/-- what the walk holds at row i of the way up: rows at i and behind are done -/
theorem tk_step : ∀ (t : List (List Int)) (k i : Nat) (T : List (List Int)) (n : Int), tkN t k = some (T, n) → i ≤ k → ∃ (B : List (List Int)) (m : Int), tkN (t.drop i) (k - i) = some (B, m) ∧ B.length = (t.drop i).length
  | [], k, i, T, n, h, _ => by simp [tkN] at h
  | row :: rest, 0, i, T, n, h, hi => by
    have : i = 0 := by omega
    subst this
    unfold tkN at h
    cases hq : row[row.length - 1]? with
    | none => rw [hq] at h; cases h
    | some y => exact ⟨row.dropLast :: rest, y, by simp [tkN, hq], by simp⟩
  | row :: rest, k + 1, i, T, n, h, hi => by
    obtain ⟨rest', n', row', hq, hu, rfl⟩ := tk_succ h
    cases i with
    | zero =>
      obtain ⟨B, m, h1, h2⟩ := tk_step rest k 0 rest' n' hq (by omega)
      rw [List.drop_zero, Nat.sub_zero, hq] at h1
      cases h1
      rw [List.drop_zero] at h2
      exact ⟨row' :: rest', n, h, by simp [h2]⟩
    | succ i =>
      obtain ⟨B, m, h1, h2⟩ := tk_step rest k i rest' n' hq (by omega)
      exact ⟨B, m, by simpa using h1, by simpa using h2⟩
theorem tk_up {t : List (List Int)} {k i : Nat} {row : List Int} (hr : t[i]? = some row) (hi : i < k) {B : List (List Int)} {m : Int} (h : tkN (t.drop (i + 1)) (k - (i + 1)) = some (B, m)) {B' : List (List Int)} {m' : Int} (h' : tkN (t.drop i) (k - i) = some (B', m')) : ∃ row', ubN row m = some (row', m') ∧ B' = row' :: B := by
  have hl : i < t.length := (List.getElem?_eq_some_iff.mp hr).1
  have e : t.drop i = row :: t.drop (i + 1) := by
    rw [List.drop_eq_getElem_cons hl, (List.getElem?_eq_some_iff.mp hr).2]
  have ek : k - i = (k - (i + 1)) + 1 := by omega
  rw [e, ek] at h'
  obtain ⟨rest', n', row', hq, hu, e2⟩ := tk_succ h'
  rw [h] at hq
  cases hq
  exact ⟨row', hu, e2⟩
def pTaken : Prom := fun cs Q => ∃ (t : List (List Int)) (k : Nat) (T : List (List Int)) (n : Int), cs = [.sh (eT t), .sh (.int (k : Int))] ∧ t.length ≤ 900 ∧ (∀ row ∈ t, row.length ≤ 900) ∧ tkN t k = some (T, n) ∧ Q (.tuple [eT (full T), .int n])
theorem tk_lt : ∀ (t : List (List Int)) (k : Nat) (T : List (List Int)) (n : Int), tkN t k = some (T, n) → k < t.length
  | [], k, _, _, h => by simp [tkN] at h
  | _ :: _, 0, _, _, _ => by simp
  | row :: rest, k + 1, T, n, h => by
    obtain ⟨rest', n', row', hq, hu, rfl⟩ := tk_succ h
    have := tk_lt rest k _ _ hq
    simp; omega
theorem ixN_n {n j : Nat} (hj : j < n) : ixN n (j : Int) = some j := by
  unfold ixN
  rw [if_pos (Int.natCast_nonneg j), if_pos (by omega)]
  rfl
theorem lcL_all {α : Type} {g : VG'} {tt : TB} {te : TC} {ρ : List C} (f : α → D) (h : α → List D) : ∀ (xs : List α) {ds : List D} {k : List (List D) → Prop}, ds = xs.map f →
    (∀ a ∈ xs, ∀ (k1 : List D → Prop) (k2 : Prop), k1 (h a) → g (f a) ρ fun ρ1 => tt ρ1 fun b => if b = true then te ρ1 fun c => olC c k1 else k2) → k (xs.map h) → lcRunL g tt te ρ ds k
  | [], _, k, e, _, q => by subst e; exact q
  | a :: xs, _, k, e, st, q => by
    subst e
    exact st a List.mem_cons_self _ _ (lcL_all f h xs rfl (fun b m => st b (List.mem_cons_of_mem _ m)) q)
theorem mm_ints (xs : List Int) : MmOk (xs.map .int) := by
  refine ⟨⟨fun d hd d' hd' => ?_, fun d hd => ?_⟩, lay_all fun d hd => ?_, dep_all fun d hd => ?_⟩
  · obtain ⟨r, _, rfl⟩ := List.mem_map.mp hd
    obtain ⟨s, _, rfl⟩ := List.mem_map.mp hd'
    rfl
  · obtain ⟨r, hr, rfl⟩ := List.mem_map.mp hd
    exact fun z => nomatch z
  · obtain ⟨r, hr, rfl⟩ := List.mem_map.mp hd
    rfl
  · obtain ⟨r, hr, rfl⟩ := List.mem_map.mp hd
    simp [PyData.depth]
theorem fold_max : ∀ (ns : List Int) (n p : Int), p ∈ n :: ns → (∀ x ∈ n :: ns, x ≤ p) → ns.foldl max n = p
  | [], n, p, h, _ => (List.mem_singleton.mp h).symm
  | x :: r, n, p, h, hm => by
    rw [List.foldl_cons]
    refine fold_max r (max n x) p ?_ fun y hy => ?_
    · have hn := hm n (by simp)
      have hx := hm x (by simp)
      rcases List.mem_cons.mp h with e | h
      · have : max n x = n := by omega
        rw [this, e]; simp
      · rcases List.mem_cons.mp h with e | h
        · have : max n x = x := by omega
          rw [this, e]; simp
        · exact List.mem_cons_of_mem _ h
    · rcases List.mem_cons.mp hy with rfl | hy
      · have hn := hm n (by simp)
        have hx := hm x (by simp)
        omega
      · exact hm y (by simp [hy])
theorem enu_map (ns : List Int) : enuD 0 (ns.map .int) = (List.range ns.length).map fun j => .tuple [.int (j : Int), .int (ns.getD j 0)] := by
  apply List.ext_getElem?
  intro i
  rw [enuD_get]
  by_cases h : i < ns.length
  · simp [h, List.getD_eq_getElem?_getD]
  · simp [h]
abbrev rI (t : List (List Int)) : List (List D) := t.map fun r => r.map PyData.int
theorem rI_list (t : List (List Int)) : (rI t).map PyData.list = t.map eI := by simp [rI, eI]
theorem rI_set (t : List (List Int)) (n : Nat) (r : List Int) : (rI t).set n (r.map .int) = rI (t.set n r) := by rw [rI, rI, List.map_set]
theorem lf_ints (ns : List Int) : lfAll (ns.map .int) = true := lfAll_mem fun d hd => by obtain ⟨x, _, rfl⟩ := List.mem_map.mp hd; rfl
theorem dwn_get {hi : Int} {n i : Nat} {x : D} (h : (dwnD hi n)[i]? = some x) : i < n ∧ x = .int (hi - i) := by
  have hl := lt_of_get h
  have hn : i < n := by simpa [dwnD] using hl
  unfold dwnD at h
  rw [List.getElem?_map, List.getElem?_range hn] at h
  exact ⟨hn, by cases h; rfl⟩
theorem dwn_len {hi : Int} {n : Nat} : (dwnD hi n).length = n := by simp [dwnD]
abbrev s_taken_out : Stmt := topS 4
theorem sc_taken_out : FnScope ["table", "at", "found", "number", "above", "place", "row", "k", "other"] ["table", "at"] (defScope s_taken_out) := ⟨rfl, rfl, rfl, by decide +kernel, rfl, by decide +kernel, by decide +kernel⟩
section
variable {P : Program} {w : World} {K : Fg} {mg : Str → Option Value} {base : Heap}
theorem ok_taken (D : Df K mg "taken_out" s_taken_out ["table", "at"]) (m_list : mg "list" = none) (m_range : mg "range" = none) (m_max : mg "max" = none) (m_enumerate : mg "enumerate" = none) : Cal P w K mg base "taken_out" 1 ["table", "at"] pTaken := by
  have nd := sc_taken_out.nd
  refine cal_ok D sc_taken_out (fun cs Q ⟨t, k, T, n, h, _⟩ => by rw [h]; rfl) (fun f cdv A outer s H E hr => ⟨_, by exact
(vss_cons (vs_setLcL (n := 2) nd rfl rfl (sw_true rfl rfl rfl (by decide +kernel)) (own := [("row", 6)]) (vj_seq (se_var (pv 0))) (blk_ok (N := ["table", "at", "found", "number", "above", "place", "row", "k", "other"]) (sc := defScope s_taken_out) (by decide +kernel)) (fun _ _ _ _ _ => (vn_name (n := 6) nd rfl)) (fun _ _ _ _ _ => vts_nil) (fun _ _ _ _ _ => (vc_list (se_var (pv 6)) (by rfl) m_list)))
    (vss_cons (vs_setRowPop 2 (n := 3) nd rfl (pv 2) (se_var (pv 1)))
    (vss_cons (vs_for (vi_dwn (vc_sub (se_var (pv 1)) vc_int.se).se (vc_neg vc_int.se).se (vc_neg vc_int.se).se (by rfl) m_range) (vn_name (n := 4) nd rfl).vg
      (vss_cons (vs_set (n := 5) nd rfl (vc_lend 2 (vc_maxD hr.units (vc_lc (own := [("k", 7), ("other", 8)]) nd (vj_enu (vc_ix (se_var (pv 2)) (se_var (pv 4))).se (by rfl) m_enumerate) (blk_ok (N := ["table", "at", "found", "number", "above", "place", "row", "k", "other"]) (sc := defScope s_taken_out) (by decide +kernel)) (fun _ _ _ _ _ => (vn_tup (n := 2) (vns_cons (vn_name (n := 7) nd rfl) (vns_cons (vn_name (n := 8) nd rfl) vns_nil)))) (fun _ _ _ _ _ => (vts_one (vb_cmp op_lt ok_lt (se_var (pv 8)) (se_var (pv 3))))) (fun _ _ _ _ _ => (vc_var (pv 7)))).se (by rfl) m_max)))
      (vss_one (vs_asg (vc_lend 2 (vc_tup (vl_cons (vc_var (pv 3)) (vl_cons (vc_ix (vc_ix (se_var (pv 2)) (se_var (pv 4))).se (se_var (pv 5))) vl_nil)))) (vg_tup (n := 2) (vgs_cons (vg_rowAt 2 (pv 2) (se_var (pv 4)) (se_var (pv 5))) (vgs_cons (vn_name (n := 3) nd rfl).vg vgs_nil)))))))
    (vss_one (vs_frz 2 (vs_ret (vc_tup (vl_cons (vc_lc (own := [("row", 6)]) nd (vj_seq (se_var (pv 2))) (blk_ok (N := ["table", "at", "found", "number", "above", "place", "row", "k", "other"]) (sc := defScope s_taken_out) (by decide +kernel)) (fun _ _ _ _ _ => (vn_name (n := 6) nd rfl)) (fun _ _ _ _ _ => (vts_one (vb_tru (se_var (pv 6))))) (fun _ _ _ _ _ => (vc_var (pv 6)))) (vl_cons (vc_var (pv 3)) vl_nil)))))))))
    , fun cs Q ⟨t, k, T, n, hc, hl, hrow, htk, q⟩ => ?_⟩)
  subst hc
  have hkt := tk_lt t k T n htk
  obtain ⟨B0, m0, hB0, hBl0⟩ := tk_step t k k T n htk (Nat.le_refl _)
  rw [Nat.sub_self] at hB0
  have e0 : t.drop k = t[k] :: t.drop (k + 1) := List.drop_eq_getElem_cons hkt
  rw [e0] at hB0
  unfold tkN at hB0
  obtain ⟨y0, hy0, hz0⟩ := Option.map_eq_some_iff.mp hB0
  cases hz0
  refine ⟨sz (by rw [List.length_map]; omega), lcL_all eI (fun r => r.map .int) t rfl (fun a ha k1 k2 h1 => h1) ?_⟩
  have g0 : (rI t)[k]? = some ((t[k]).map .int) := by rw [List.getElem?_map, List.getElem?_eq_getElem hkt]; rfl
  refine ⟨k, _, ixN_n (by rw [List.length_map]; exact hkt), g0, .int m0, by rw [List.length_map, List.getElem?_map, hy0]; rfl, ?_⟩
  have s0 : (rI t).set k (((t[k]).map PyData.int).dropLast) = rI (t.take k ++ ((t[k]).dropLast :: t.drop (k + 1))) := by
    rw [← List.map_dropLast, rI_set]
    congr 1
    rw [List.set_eq_take_append_cons_drop, if_pos hkt]
  rw [s0]
  have ek : ((k : Int) - 1 - -1).toNat = k := by omega
  refine ⟨rfl, ⟨by omega, by omega, by decide, by decide⟩, ?_⟩
  show ∃ Iv, _
  refine ⟨fun i ρ => ∃ B m c4 c5 c6 c7 c8, ρ = [.sh (eT t), .sh (.int (k : Int)), .oll (rI (t.take (k - i) ++ B)), .sh (.int m), c4, c5, c6, c7, c8] ∧ tkN (t.drop (k - i)) i = some (B, m) ∧ i ≤ k,
    ⟨_, _, _, _, _, _, _, rfl, by rw [Nat.sub_zero, e0]; unfold tkN; rw [hy0]; rfl, Nat.zero_le _⟩, fun i x ρ hx ⟨B, m, c4, c5, c6, c7, c8, hρ, hB, hik⟩ => ?_, fun ρ ⟨B, m, c4, c5, c6, c7, c8, hρ, hB, hik⟩ => ?_⟩
  · subst hρ
    obtain ⟨hi, hx'⟩ := dwn_get hx
    rw [ek] at hi
    obtain ⟨a, ha⟩ : ∃ a, a = k - 1 - i := ⟨_, rfl⟩
    have hki : k - i = a + 1 := by omega
    have hx2 : x = .int (a : Int) := by rw [hx']; congr 1; omega
    subst hx2
    rw [hki] at hB
    have hat : a < t.length := by omega
    obtain ⟨B', m', hB', _⟩ := tk_step t k a T n htk (by omega)
    have hra : t[a]? = some t[a] := List.getElem?_eq_getElem hat
    generalize t[a] = row at hra
    have hrl := hrow row (List.mem_of_getElem? hra)
    obtain ⟨row', hu, rfl⟩ := tk_up hra (by omega) (by rw [show k - (a + 1) = i by omega]; exact hB) hB'
    obtain ⟨p, hp1, hp2, hp3, rfl⟩ := ub_place row m row' m' hu
    have hpl := lt_of_get hp1
    rw [hki]
    have tl : (t.take (a + 1)).length = a + 1 := by rw [List.length_take]; omega
    have Ta : (t.take (a + 1) ++ B)[a]? = some row := by rw [List.getElem?_append_left (by omega), List.getElem?_take, if_pos (by omega), hra]
    have Tl : a < (t.take (a + 1) ++ B).length := lt_of_get Ta
    have Tset : (t.take (a + 1) ++ B).set a (row.set p m) = t.take a ++ (row.set p m :: B) := by
      rw [List.set_eq_take_append_cons_drop, if_pos Tl, List.take_append_of_le_length (by omega), List.take_take, Nat.min_eq_left (by omega), List.drop_append, tl, Nat.sub_self, List.drop_zero, List.drop_of_length_le (by omega), List.nil_append]
    have at1 : atI ((rI (t.take (a + 1) ++ B)).map PyData.list) (a : Int) = some (eI row) := by
      rw [rI_list]
      exact atI_nat (by rw [List.getElem?_map, Ta]; rfl)
    refine ⟨_, rfl, eI row, at1, ?_⟩
    refine ⟨sz (by rw [enuD_len, List.length_map]; omega), ?_⟩
    refine lc_map (fun j : Nat => .tuple [.int (j : Int), .int (row.getD j 0)]) (fun j : Nat => .int (j : Int)) (fun j => decide (row.getD j 0 < m)) (List.range row.length) (enu_map row) (fun j hj k1 k2 h1 h2 => ?_) ?_
    · refine ⟨rfl, rfl, ?_⟩
      show if decide (row.getD j 0 < m) = true then _ else _
      exact itd (fun e => h1 (decide_eq_true e)) (fun e => h2 (decide_eq_false e))
    have efl : ((List.range row.length).filter fun j => decide (row.getD j 0 < m)).map (fun j : Nat => PyData.int (j : Int)) = (((List.range row.length).filter fun j => decide (row.getD j 0 < m)).map fun j : Nat => (j : Int)).map .int := by rw [List.map_map]; rfl
    rw [efl]
    have gp : row.getD p 0 = m' := by rw [List.getD_eq_getElem?_getD, hp1]; rfl
    have pin : (p : Int) ∈ ((List.range row.length).filter fun j => decide (row.getD j 0 < m)).map fun j : Nat => (j : Int) := List.mem_map.mpr ⟨p, List.mem_filter.mpr ⟨List.mem_range.mpr hpl, by rw [gp]; exact decide_eq_true hp2⟩, rfl⟩
    have pmax : ∀ z ∈ ((List.range row.length).filter fun j => decide (row.getD j 0 < m)).map (fun j : Nat => (j : Int)), z ≤ (p : Int) := fun z hz => by
      obtain ⟨j, hj, rfl⟩ := List.mem_map.mp hz
      obtain ⟨h1, h2⟩ := List.mem_filter.mp hj
      rw [List.mem_range] at h1
      by_cases hjp : p < j
      · have := hp3 j row[j] hjp (List.getElem?_eq_getElem h1)
        rw [List.getD_eq_getElem?_getD, List.getElem?_eq_getElem h1] at h2
        simp only [Option.getD_some, decide_eq_true_eq] at h2
        exact absurd h2 this
      · omega
    obtain ⟨n0, nr, en⟩ := List.exists_cons_of_ne_nil (List.ne_nil_of_mem pin)
    rw [en] at pin pmax ⊢
    refine ⟨.int n0, nr.map .int, rfl, mm_ints (n0 :: nr), ?_⟩
    rw [PySem.W.maxD_ints, fold_max nr n0 p pin pmax]
    refine ⟨rfl, ?_⟩
    refine ⟨_, rfl, eI row, at1, .int m', atI_nat (by rw [List.getElem?_map, hp1]; rfl), sz (by simp), rfl, ?_⟩
    refine ⟨rfl, a, row.map .int, ixN_n (by rw [List.length_map]; exact Tl), by rw [List.getElem?_map, Ta]; rfl, p, ixN_n (by rw [List.length_map]; exact hpl), rfl, ?_⟩
    refine ⟨row.set p m :: B, m', .sh (.int (a : Int)), .sh (.int (p : Int)), c6, c7, c8, ?_, ?_, by omega⟩
    · rw [show k - (i + 1) = a by omega, ← Tset, ← rI_set, ← List.map_set]
      rfl
    · rw [show k - (i + 1) = a by omega, show i + 1 = k - a by omega]
      exact hB'
  · subst hρ
    rw [dwn_len, ek] at *
    rw [Nat.sub_self] at *
    rw [List.drop_zero, htk] at hB
    cases hB
    rw [List.take_zero, List.nil_append]
    have hTl : T.length ≤ 900 := by
      have := tk_step t k 0 T n htk (Nat.zero_le _)
      obtain ⟨B, m, h1, h2⟩ := this
      rw [List.drop_zero, Nat.sub_zero, htk] at h1
      cases h1
      rw [List.drop_zero] at h2
      omega
    refine ⟨sz (by rw [List.length_map, List.length_map]; omega), ?_⟩
    refine lc_map eI eI (fun r => !r.isEmpty) T (rI_list T) (fun r hr k1 k2 h1 h2 => ?_) ?_
    · show if (!(r.map PyData.int).isEmpty) = true then _ else _
      have e : (r.map PyData.int).isEmpty = r.isEmpty := by cases r <;> rfl
      rw [e]
      exact itb h1 h2
    · exact ⟨sz (by simp), q⟩
end

/-! ### taking out undoes inserting -/
def RowsInc (t : List (List Int)) : Prop := ∀ row ∈ t, row ≠ [] ∧ row.Pairwise (· < ·)
theorem RowsInc.tail {row : List Int} {t : List (List Int)} (h : RowsInc (row :: t)) : RowsInc t := fun r m => h r (List.mem_cons_of_mem _ m)
theorem ub_none : ∀ {r : List Int} {n : Int}, (∀ z ∈ r, ¬ z < n) → ubN r n = none
  | [], _, _ => rfl
  | x :: r, n, h => by
    unfold ubN
    rw [ub_none (r := r) fun z m => h z (List.mem_cons_of_mem _ m)]
    simp [h x List.mem_cons_self]
theorem ub_placed : ∀ {row : List Int} {n m : Int}, row.Pairwise (· < ·) → (placedN row n).2 = some m → ubN (placedN row n).1 m = some (row, n)
  | [], _, _, _, h => by simp [placedN] at h
  | x :: r, n, m, hp, h => by
    rw [List.pairwise_cons] at hp
    by_cases hx : n < x
    · have e : placedN (x :: r) n = (n :: r, some x) := by simp [placedN, hx]
      rw [e] at h ⊢
      cases h
      unfold ubN
      rw [ub_none fun z m => by have := hp.1 z m; omega]
      simp [hx]
    · have e : placedN (x :: r) n = (x :: (placedN r n).1, (placedN r n).2) := by simp [placedN, hx]
      rw [e] at h ⊢
      unfold ubN
      rw [ub_placed hp.2 h]
theorem ins_tk : ∀ (t : List (List Int)) (n : Int), RowsInc t → ∃ T, tkN (insN t n).1 (insN t n).2 = some (T, n) ∧ full T = t
  | [], n, _ => ⟨[[]], by simp [insN, tkN], rfl⟩
  | row :: rest, n, h => by
    have hf : full rest = rest := List.filter_eq_self.mpr fun r m => by
      have := (h.tail r m).1
      cases r with
      | nil => exact absurd rfl this
      | cons _ _ => rfl
    have h0 := h row List.mem_cons_self
    have hne : row.isEmpty = false := by
      cases row with
      | nil => exact absurd rfl h0.1
      | cons _ _ => rfl
    have hfc : ∀ T, full T = rest → full (row :: T) = row :: rest := fun T e => by
      show List.filter _ (row :: T) = _
      rw [List.filter_cons, hne]
      exact congrArg (row :: ·) e
    cases hp : (placedN row n).2 with
    | none =>
      have e : insN (row :: rest) n = ((placedN row n).1 :: rest, 0) := by simp [insN, hp]
      rw [e]
      have er : (placedN row n).1 = row ++ [n] := by
        have : ∀ (row : List Int), (placedN row n).2 = none → (placedN row n).1 = row ++ [n] := by
          intro row
          induction row with
          | nil => intro _; rfl
          | cons x r ih =>
            intro hp
            unfold placedN at hp ⊢
            split at hp
            · cases hp
            · next hx => rw [if_neg hx]; simp [ih hp]
        exact this row hp
      rw [er]
      refine ⟨row :: rest, ?_, hfc rest hf⟩
      simp [tkN]
    | some m =>
      have e : insN (row :: rest) n = ((placedN row n).1 :: (insN rest m).1, (insN rest m).2 + 1) := by simp [insN, hp]
      obtain ⟨T, h1, h2⟩ := ins_tk rest m h.tail
      rw [e]
      refine ⟨row :: T, ?_, hfc T h2⟩
      unfold tkN
      rw [h1]
      simp [ub_placed h0.2 hp]
/-! what inserting keeps -/
theorem placed_keeps : ∀ (row : List Int) (n : Int), row.Pairwise (· < ·) → n ∉ row → (placedN row n).1.Pairwise (· < ·) ∧ (placedN row n).1 ≠ [] ∧ ((placedN row n).2 = none → (placedN row n).1.Perm (n :: row)) ∧ ∀ m, (placedN row n).2 = some m → (m :: (placedN row n).1).Perm (n :: row) ∧ n < m ∧ m ∈ row ∧ (placedN row n).1.length = row.length
  | [], n, _, _ => by simp [placedN]
  | x :: r, n, hp, hn => by
    rw [List.pairwise_cons] at hp
    rw [List.mem_cons, not_or] at hn
    by_cases hx : n < x
    · have e : placedN (x :: r) n = (n :: r, some x) := by simp [placedN, hx]
      rw [e]
      refine ⟨List.pairwise_cons.mpr ⟨fun z m => by have := hp.1 z m; omega, hp.2⟩, by simp, fun h => (nomatch h), fun m h => ?_⟩
      cases h
      exact ⟨List.Perm.swap _ _ _, hx, by simp, by simp⟩
    · have e : placedN (x :: r) n = (x :: (placedN r n).1, (placedN r n).2) := by simp [placedN, hx]
      rw [e]
      obtain ⟨h1, h2, h3, h4⟩ := placed_keeps r n hp.2 hn.2
      have lt : ∀ z ∈ (placedN r n).1, x < z := fun z hz => by
        have hm : z ∈ n :: r := by
          cases ho : (placedN r n).2 with
          | none => exact (h3 ho).mem_iff.mp hz
          | some m => exact (h4 m ho).1.mem_iff.mp (List.mem_cons_of_mem _ hz)
        rcases List.mem_cons.mp hm with rfl | hm
        · omega
        · exact hp.1 z hm
      refine ⟨List.pairwise_cons.mpr ⟨lt, h1⟩, by simp, fun h => ?_, fun m h => ?_⟩
      · exact ((h3 h).cons x).trans (List.Perm.swap _ _ _)
      · obtain ⟨a1, a2, a3, a4⟩ := h4 m h
        exact ⟨(List.Perm.swap _ _ _).trans ((a1.cons x).trans (List.Perm.swap _ _ _)), a2, List.mem_cons_of_mem _ a3, by simp [a4]⟩
def addL : List Nat → Nat → List Nat
  | [], _ => [1]
  | l :: r, 0 => (l + 1) :: r
  | l :: r, k + 1 => l :: addL r k
def secR : List (List Int) → Nat → Int → List (List Int)
  | [], _, x => [[x]]
  | row :: r, 0, x => (row ++ [x]) :: r
  | row :: r, k + 1, x => row :: secR r k x
theorem secN_eq : ∀ (s : List (List Int)) (k : Nat) (x : Int), k ≤ s.length → secN s k x = secR s k x
  | [], k, x, h => by
    have : k = 0 := by simpa using h
    subst this
    rfl
  | row :: r, 0, x, _ => by simp [secN, sec0, secR]
  | row :: r, k + 1, x, h => by
    have h' : k ≤ r.length := by simpa using h
    have ih := secN_eq r k x h'
    have e : sec0 (row :: r) (k + 1) = row :: sec0 r k := by
      unfold sec0
      simp only [List.length_cons, Nat.add_right_cancel_iff]
      split <;> simp
    unfold secN at ih ⊢
    rw [e]
    simp only [List.take_succ_cons, List.getD_cons_succ, List.drop_succ_cons, List.cons_append, secR]
    rw [ih]
theorem ins_keeps : ∀ (t : List (List Int)) (n : Int), RowsInc t → t.flatten.Nodup → n ∉ t.flatten → RowsInc (insN t n).1 ∧ (insN t n).1.flatten.Perm (n :: t.flatten) ∧ (insN t n).1.map List.length = addL (t.map List.length) (insN t n).2
  | [], n, _, _, _ => ⟨fun row m => by rw [show row = [n] from List.mem_singleton.mp m]; simp, by simp [insN], by simp [insN, addL]⟩
  | row :: rest, n, h, nd, hn => by
    have h0 := h row List.mem_cons_self
    rw [List.flatten_cons] at nd hn
    rw [List.nodup_append] at nd
    rw [List.mem_append, not_or] at hn
    obtain ⟨h1, h2, h3, h4⟩ := placed_keeps row n h0.2 hn.1
    cases hp : (placedN row n).2 with
    | none =>
      have e : insN (row :: rest) n = ((placedN row n).1 :: rest, 0) := by simp [insN, hp]
      rw [e]
      have hq := h3 hp
      refine ⟨fun r m => ?_, ?_, ?_⟩
      · rcases List.mem_cons.mp m with rfl | m
        · exact ⟨h2, h1⟩
        · exact h.tail r m
      · rw [List.flatten_cons, List.flatten_cons, ← List.cons_append]
        exact hq.append_right _
      · rw [List.map_cons, List.map_cons, hq.length_eq]
        rfl
    | some m =>
      have e : insN (row :: rest) n = ((placedN row n).1 :: (insN rest m).1, (insN rest m).2 + 1) := by simp [insN, hp]
      obtain ⟨a1, a2, a3, a4⟩ := h4 m hp
      have hm : m ∉ rest.flatten := fun hm => nd.2.2 m a3 m hm rfl
      obtain ⟨b1, b2, b3⟩ := ins_keeps rest m h.tail nd.2.1 hm
      rw [e]
      refine ⟨fun r hr => ?_, ?_, ?_⟩
      · rcases List.mem_cons.mp hr with rfl | hr
        · exact ⟨h2, h1⟩
        · exact b1 r hr
      · show ((placedN row n).1 ++ (insN rest m).1.flatten).Perm _
        refine (b2.append_left _).trans ?_
        refine (List.perm_middle).trans ?_
        rw [← List.cons_append, List.flatten_cons, ← List.cons_append]
        exact a1.append_right _
      · rw [List.map_cons, List.map_cons, a4, b3]
        rfl
theorem sec_keeps : ∀ (s : List (List Int)) (k : Nat) (x : Int), RowsInc s → (∀ z ∈ s.flatten, z < x) → RowsInc (secR s k x) ∧ (secR s k x).flatten.Perm (x :: s.flatten) ∧ (secR s k x).map List.length = addL (s.map List.length) k
  | [], k, x, _, _ => ⟨fun row m => by rw [show row = [x] from List.mem_singleton.mp m]; simp, by simp [secR], by simp [secR, addL]⟩
  | row :: r, 0, x, h, hx => by
    have h0 := h row List.mem_cons_self
    refine ⟨fun r' m => ?_, ?_, by simp [secR, addL]⟩
    · rcases List.mem_cons.mp m with rfl | m
      · refine ⟨by simp, List.pairwise_append.mpr ⟨h0.2, by simp, fun a ha b hb => ?_⟩⟩
        rw [List.mem_singleton.mp hb]
        exact hx a (by rw [List.flatten_cons]; exact List.mem_append_left _ ha)
      · exact h.tail r' m
    · show ((row ++ [x]) ++ r.flatten).Perm (x :: (row ++ r.flatten))
      rw [List.append_assoc]
      exact List.perm_middle
  | row :: r, k + 1, x, h, hx => by
    obtain ⟨h1, h2, h3⟩ := sec_keeps r k x h.tail fun z hz => hx z (by rw [List.flatten_cons]; exact List.mem_append_right _ hz)
    refine ⟨fun r' m => ?_, ?_, by simp [secR, addL, h3]⟩
    · rcases List.mem_cons.mp m with rfl | m
      · exact h _ List.mem_cons_self
      · exact h1 r' m
    · show (row ++ (secR r k x).flatten).Perm (x :: (row ++ r.flatten))
      exact (h2.append_left row).trans List.perm_middle
structure TI (P Q : List (List Int)) (qs : List (Int × Int)) : Prop where
  pr : RowsInc P
  pf : P.flatten.Perm (qs.map (·.2))
  qr : RowsInc Q
  qf : Q.flatten.Perm (qs.map (·.1))
  sh : P.map List.length = Q.map List.length
structure PtsOk (qs : List (Int × Int)) : Prop where
  xs : qs.Pairwise fun p q => p.1 < q.1
  ys : (qs.map (·.2)).Nodup
theorem TI.nil : TI [] [] [] := ⟨fun _ m => (nomatch m), .refl _, fun _ m => (nomatch m), .refl _, rfl⟩
theorem TI.len {P Q : List (List Int)} {qs : List (Int × Int)} (h : TI P Q qs) : P.length = Q.length := by
  have := congrArg List.length h.sh
  simpa using this
theorem PtsOk.take {qs : List (Int × Int)} (h : PtsOk qs) (i : Nat) : PtsOk (qs.take i) := ⟨h.xs.sublist (List.take_sublist _ _), h.ys.sublist ((List.take_sublist i qs).map _)⟩
theorem ti_step {P Q : List (List Int)} {qs : List (Int × Int)} {p : Int × Int} (h : TI P Q qs) (ok : PtsOk (qs ++ [p])) : TI (tabStep (P, Q) p).1 (tabStep (P, Q) p).2 (qs ++ [p]) := by
  have hx : ∀ z ∈ Q.flatten, z < p.1 := fun z hz => by
    obtain ⟨q, hq, rfl⟩ := List.mem_map.mp (h.qf.mem_iff.mp hz)
    exact (List.pairwise_append.mp ok.xs).2.2 q hq p (by simp)
  have ys := ok.ys
  rw [List.map_append, List.nodup_append] at ys
  have hy : p.2 ∉ P.flatten := fun hm => ys.2.2 p.2 (h.pf.mem_iff.mp hm) p.2 (by simp) rfl
  have pn : P.flatten.Nodup := h.pf.symm.nodup ys.1
  obtain ⟨a1, a2, a3⟩ := ins_keeps P p.2 h.pr pn hy
  have hk := insN_le P p.2
  obtain ⟨b1, b2, b3⟩ := sec_keeps Q (insN P p.2).2 p.1 h.qr hx
  have es : (tabStep (P, Q) p).2 = secR Q (insN P p.2).2 p.1 := secN_eq Q _ _ (by rw [← h.len]; exact hk)
  refine ⟨a1, ?_, by rw [es]; exact b1, ?_, ?_⟩
  · rw [List.map_append]
    refine (a2.trans (h.pf.cons _)).trans ?_
    exact (List.perm_append_comm (l₁ := [p.2])).symm.symm
  · rw [es, List.map_append]
    refine (b2.trans (h.qf.cons _)).trans ?_
    exact List.perm_append_comm (l₁ := [p.1])
  · rw [es, b3, ← h.sh]
    exact a3
theorem ti_at {qs : List (Int × Int)} (ok : PtsOk qs) : ∀ i, TI ((qs.take i).foldl tabStep ([], [])).1 ((qs.take i).foldl tabStep ([], [])).2 (qs.take i)
  | 0 => TI.nil
  | i + 1 => by
    by_cases hi : i < qs.length
    · have e : qs.take (i + 1) = qs.take i ++ [qs[i]] := by rw [List.take_add_one, List.getElem?_eq_getElem hi]; rfl
      have h2 := ok.take (i + 1)
      rw [e] at h2 ⊢
      rw [List.foldl_append]
      exact ti_step (ti_at ok i) h2
    · have h := ti_at ok i
      rw [List.take_of_length_le (by omega)] at h ⊢
      exact h
/-! the second table: where the last point stands -/
theorem sec_last : ∀ (s : List (List Int)) (k : Nat) (x : Int), RowsInc s → k ≤ s.length → (∀ z ∈ s.flatten, z < x) → ∃ row, (secR s k x)[k]? = some (row ++ [x]) ∧ full ((secR s k x).set k row) = s ∧ ∀ j r, (secR s k x)[j]? = some r → r ≠ [] ∧ (j ≠ k → r.getLastD 0 < x)
  | [], k, x, _, hk, _ => by
    have : k = 0 := by simpa using hk
    subst this
    refine ⟨[], rfl, rfl, fun j r hj => ?_⟩
    cases j with
    | zero => cases hj; exact ⟨by simp, fun h => absurd rfl h⟩
    | succ j => simp [secR] at hj
  | row :: r, 0, x, h, _, hx => by
    have fullr : full (row :: r) = row :: r := List.filter_eq_self.mpr fun r' m => by
      have := (h r' m).1
      cases r' with
      | nil => exact absurd rfl this
      | cons _ _ => rfl
    refine ⟨row, rfl, by simpa [secR] using fullr, fun j r' hj => ?_⟩
    cases j with
    | zero => cases hj; exact ⟨by simp, fun h => absurd rfl h⟩
    | succ j =>
      have hm := List.mem_of_getElem? (show r[j]? = some r' by simpa [secR] using hj)
      have hne := (h.tail r' hm).1
      refine ⟨hne, fun _ => hx _ ?_⟩
      rw [List.flatten_cons]
      refine List.mem_append_right _ (List.mem_flatten.mpr ⟨r', hm, ?_⟩)
      rw [List.getLastD_eq_getLast?, List.getLast?_eq_some_getLast hne]
      exact List.getLast_mem hne
  | row :: r, k + 1, x, h, hk, hx => by
    obtain ⟨row', h1, h2, h3⟩ := sec_last r k x h.tail (by simpa using hk) fun z hz => hx z (by rw [List.flatten_cons]; exact List.mem_append_right _ hz)
    have h0 := h row List.mem_cons_self
    have hne : row.isEmpty = false := by
      cases row with
      | nil => exact absurd rfl h0.1
      | cons _ _ => rfl
    refine ⟨row', by simpa [secR] using h1, ?_, fun j r' hj => ?_⟩
    · show List.filter _ (row :: (secR r k x).set k row') = _
      rw [List.filter_cons, hne]
      exact congrArg (row :: ·) h2
    · cases j with
      | zero =>
        cases hj
        refine ⟨h0.1, fun _ => hx _ ?_⟩
        rw [List.flatten_cons]
        refine List.mem_append_left _ ?_
        rw [List.getLastD_eq_getLast?, List.getLast?_eq_some_getLast h0.1]
        exact List.getLast_mem h0.1
      | succ j =>
        obtain ⟨a1, a2⟩ := h3 j r' (by simpa [secR] using hj)
        exact ⟨a1, fun hjk => a2 fun z => hjk (by rw [z])⟩

/-! ### the points again -/
theorem lex_anti {p q : Int × Int} (h1 : ¬ TL.lexP q p = true) (h2 : ¬ TL.lexP p q = true) : p = q := by
  obtain ⟨a, b⟩ := p
  obtain ⟨c, d⟩ := q
  simp only [TL.lexP, SrtO.lexB] at h1 h2
  by_cases e : a = c
  · subst e
    rw [if_pos rfl, decide_eq_true_eq] at h1 h2
    have : b = d := by omega
    rw [this]
  · rw [if_neg (Ne.symm e), decide_eq_true_eq] at h1
    rw [if_neg e, decide_eq_true_eq] at h2
    omega
theorem PtsOk.sorted {qs : List (Int × Int)} (h : PtsOk qs) : qs.Pairwise fun p q => ¬ TL.lexP q p = true := h.xs.imp fun {p q} h => by
  simp only [TL.lexP, SrtO.lexB]
  rw [if_neg (by omega), decide_eq_true_eq]
  omega
theorem PtsOk.only {qs ps : List (Int × Int)} (h : PtsOk qs) (hp : ps.Perm qs) (hs : ps.Pairwise fun p q => ¬ TL.lexP q p = true) : ps = qs :=
  List.Perm.eq_of_pairwise (le := fun p q => ¬ TL.lexP q p = true) (fun p q _ _ h1 h2 => lex_anti h1 h2) hs h.sorted hp
theorem atI_last {ns : List Int} (h : ns ≠ []) : atI (ns.map PyData.int) (-1) = some (.int (ns.getLastD 0)) := by
  have hl : 0 < ns.length := List.length_pos_iff.mpr h
  have e : ixN (ns.map PyData.int).length (-1) = some (ns.length - 1) := by
    unfold ixN
    rw [List.length_map]
    rw [if_neg (by decide), if_pos (by omega)]
    congr 1
    omega
  unfold atI
  rw [e]
  show (ns.map PyData.int)[ns.length - 1]? = _
  rw [List.getElem?_map, List.getLastD_eq_getLast?, List.getLast?_eq_getElem?]
  rw [List.getElem?_eq_getElem (by omega)]
  rfl
theorem ltD_P (p q : Int × Int) : ltD (eP p) (eP q) = TL.lexP p q := by
  rw [ltD_cons rfl, ltD_cons rfl, eqv_int, eqv_int, ltD_int, ltD_int, ltD_nil]
  unfold TL.lexP SrtO.lexB
  by_cases h : p.1 = q.1
  · rw [if_pos h, if_pos (by simpa using h)]
    by_cases h2 : p.2 = q.2
    · simp [h2]
    · simp [h2]
  · rw [if_neg h, if_neg (by simpa using h)]
theorem max_P (q : Int × Int) : ∀ (ps : List (Int × Int)) (p : Int × Int), q ∈ p :: ps → (∀ r ∈ p :: ps, r = q ∨ r.1 < q.1) → PySem.W.maxD (eP p) (ps.map eP) = eP q
  | [], p, h, _ => by rw [List.mem_singleton.mp h]; rfl
  | r :: ps, p, h, hm => by
    have step : PySem.W.maxD (eP p) ((r :: ps).map eP) = PySem.W.maxD (if ltD (eP p) (eP r) = true then eP r else eP p) (ps.map eP) := rfl
    rw [step, ltD_P]
    by_cases hl : TL.lexP p r = true
    · rw [if_pos hl]
      refine max_P q ps r ?_ fun z hz => hm z (List.mem_cons_of_mem _ hz)
      rcases List.mem_cons.mp h with rfl | h
      · rcases hm r (by simp) with e | e
        · rw [e]; simp
        · have := SrtO.lexB_iff.mp hl
          omega
      · exact h
    · rw [if_neg hl]
      refine max_P q ps p ?_ fun z hz => ?_
      · rcases List.mem_cons.mp h with h | h
        · rw [h]; simp
        · rcases List.mem_cons.mp h with h | h
          · rcases hm p (by simp) with e | e
            · rw [e]; simp
            · refine absurd (SrtO.lexB_iff.mpr ?_) hl
              rw [← h]
              exact .inl e
          · exact List.mem_cons_of_mem _ h
      · rcases List.mem_cons.mp hz with rfl | hz
        · exact hm _ (by simp)
        · exact hm z (by simp [hz])
theorem mm_P (ps : List (Int × Int)) : MmOk (ps.map eP) := by
  refine ⟨⟨fun d hd d' hd' => ?_, fun d hd => ?_⟩, lay_all fun d hd => ?_, dep_all fun d hd => ?_⟩
  · obtain ⟨r, _, rfl⟩ := List.mem_map.mp hd
    obtain ⟨s, _, rfl⟩ := List.mem_map.mp hd'
    rfl
  · obtain ⟨r, hr, rfl⟩ := List.mem_map.mp hd
    exact fun z => nomatch z
  · obtain ⟨r, hr, rfl⟩ := List.mem_map.mp hd
    simp [PyData.canLay0, PyData.canLayAll0]
  · obtain ⟨r, hr, rfl⟩ := List.mem_map.mp hd
    simp [PyData.depth, PyData.depthAll]
theorem enu_mapT (t : List (List Int)) : enuD 0 (t.map eI) = (List.range t.length).map fun j => .tuple [.int (j : Int), eI (t.getD j [])] := by
  apply List.ext_getElem?
  intro i
  rw [enuD_get]
  by_cases h : i < t.length
  · simp [h, List.getD_eq_getElem?_getD, eI]
  · simp [h]
theorem full_rI (t : List (List Int)) : (rI t).filter (fun d => !d.isEmpty) = rI (full t) := by
  unfold full rI
  rw [List.filter_map]
  congr 1
  apply List.filter_congr
  intro r _
  cases r <;> rfl
def pPtsOf : Prom := fun cs Q => ∃ qs : List (Int × Int), cs = [.sh (eT (tabN qs).1), .sh (eT (tabN qs).2)] ∧ PtsOk qs ∧ qs.length ≤ 800 ∧ Q (.list (qs.map eP))
abbrev s_points_of : Stmt := topS 5
theorem sc_points_of : FnScope ["first", "second", "found", "left", "table", "x", "at", "y", "row", "k"] ["first", "second"] (defScope s_points_of) := ⟨rfl, rfl, rfl, by decide +kernel, rfl, by decide +kernel, by decide +kernel⟩
section
variable {P : Program} {w : World} {K : Fg} {mg : Str → Option Value} {base : Heap}
theorem ok_ptsof (D : Df K mg "points_of" s_points_of ["first", "second"]) (c_taken_out : Cal P w K mg base "taken_out" 1 ["table", "at"] pTaken) (m_list : mg "list" = none) (m_max : mg "max" = none) (m_enumerate : mg "enumerate" = none) (m_sorted : mg "sorted" = none) : Cal P w K mg base "points_of" 2 ["first", "second"] pPtsOf := by
  have nd := sc_points_of.nd
  refine cal_ok D sc_points_of (fun cs Q ⟨qs, h, _⟩ => by rw [h]; rfl) (fun f cdv A outer s H E hr => ⟨_, by exact
(vss_cons (vs_set (n := 2) nd rfl (vc_lst vl_nil))
    (vss_cons (vs_setLcL (n := 3) nd rfl rfl (sw_true rfl rfl rfl (by decide +kernel)) (own := [("row", 8)]) (vj_seq (se_var (pv 1))) (blk_ok (N := ["first", "second", "found", "left", "table", "x", "at", "y", "row", "k"]) (sc := defScope s_points_of) (by decide +kernel)) (fun _ _ _ _ _ => (vn_name (n := 8) nd rfl)) (fun _ _ _ _ _ => vts_nil) (fun _ _ _ _ _ => (vc_list (se_var (pv 8)) (by rfl) m_list)))
    (vss_cons (vs_set (n := 4) nd rfl (vc_var (pv 0)))
    (vss_cons (vs_while (vb_lend 3 (vb_tru (se_var (pv 3))))
      (vss_cons (vs_asg (vc_lend 3 (vc_maxD hr.units (vc_lc (own := [("k", 9), ("row", 8)]) nd (vj_enu (se_var (pv 3)) (by rfl) m_enumerate) (blk_ok (N := ["first", "second", "found", "left", "table", "x", "at", "y", "row", "k"]) (sc := defScope s_points_of) (by decide +kernel)) (fun _ _ _ _ _ => (vn_tup (n := 2) (vns_cons (vn_name (n := 9) nd rfl) (vns_cons (vn_name (n := 8) nd rfl) vns_nil)))) (fun _ _ _ _ _ => vts_nil) (fun _ _ _ _ _ => (vc_tup (vl_cons (vc_ix (se_var (pv 8)) (vc_neg vc_int.se).se) (vl_cons (vc_var (pv 9)) vl_nil))))).se (by rfl) m_max)) (vn_tup (n := 2) (vns_cons (vn_name (n := 5) nd rfl) (vns_cons (vn_name (n := 6) nd rfl) vns_nil))).vg)
      (vss_cons (vs_asg (vc_cal c_taken_out (hr.mono (by decide)) (va_cons (vc_var (pv 4)) (va_cons (vc_var (pv 6)) va_nil))) (vn_tup (n := 2) (vns_cons (vn_name (n := 4) nd rfl) (vns_cons (vn_name (n := 7) nd rfl) vns_nil))).vg)
      (vss_cons (vs_append 2 (pv 2) (vc_tup (vl_cons (vc_var (pv 5)) (vl_cons (vc_var (pv 7)) vl_nil))))
      (vss_cons (vs_rowPop 3 (pv 3) (se_var (pv 6)))
      (vss_one (vs_filterL (own := [("row", 8)]) 3 8 nd rfl rfl (sw_true rfl rfl rfl (by decide +kernel)) (pv 3) (blk_ok (N := ["first", "second", "found", "left", "table", "x", "at", "y", "row", "k"]) (sc := defScope s_points_of) (by decide +kernel)) (fun _ _ _ _ _ => pg_name nd rfl (.inl rfl) (by first | exact .inl rfl | exact .inr rfl)) (fun _ _ _ _ _ => pv 8) (fun _ _ _ _ _ => pv 8))))))))
    (vss_one (vs_ret (vc_sortP (se_var (pv 2)) (by rfl) m_sorted)))))))
    , fun cs Q ⟨qs, hc, ok, hql, q⟩ => ?_⟩)
  subst hc
  have tiA := ti_at ok
  have tkA := tab_ok qs
  have etab : tabN qs = (qs.take qs.length).foldl tabStep ([], []) := by rw [List.take_length]; rfl
  rw [etab]
  have lenA : ∀ j, ((qs.take j).foldl tabStep ([], [])).2.length ≤ 800 := fun j => by
    have h1 := (tab_ok qs (min j qs.length)).l1
    have h2 := (tab_ok qs (min j qs.length)).l2
    have e : qs.take (min j qs.length) = qs.take j := by
      rcases Nat.le_total j qs.length with h | h
      · rw [Nat.min_eq_left h]
      · rw [Nat.min_eq_right h, List.take_length, List.take_of_length_le h]
    rw [e] at h1 h2
    have := Nat.min_le_right j qs.length
    omega
  have lenQ := lenA qs.length
  refine ⟨sz (by simp), sz (by rw [List.length_map]; omega), lcL_all eI (fun r => r.map .int) ((qs.take qs.length).foldl tabStep ([], [])).2 rfl (fun a ha k1 k2 h1 => h1) ?_⟩
  refine ⟨fun m ρ => ∃ c5 c6 c7 c8 c9, m ≤ qs.length ∧ ρ = [.sh (eT ((qs.take qs.length).foldl tabStep ([], [])).1), .sh (eT ((qs.take qs.length).foldl tabStep ([], [])).2), .ol ((qs.drop m).reverse.map eP), .oll (rI ((qs.take m).foldl tabStep ([], [])).2), .sh (eT ((qs.take m).foldl tabStep ([], [])).1), c5, c6, c7, c8, c9],
    ⟨qs.length, _, _, _, _, _, Nat.le_refl _, by rw [List.drop_length]; rfl⟩, fun m ρ ⟨c5, c6, c7, c8, c9, hm, hρ⟩ => ?_⟩
  subst hρ
  refine ⟨_, rfl, ?_⟩
  cases m with
  | zero =>
    refine ⟨_, rfl, fun ps hp hs => ?_⟩
    rw [List.drop_zero] at hp
    rw [ok.only (hp.trans (List.reverse_perm _)) hs]
    exact q
  | succ m =>
    have hml : m < qs.length := hm
    have ti := tiA m
    have tk := tkA m
    have l0 := lenA m
    have l1 := lenA (m + 1)
    have et : qs.take (m + 1) = qs.take m ++ [qs[m]] := by rw [List.take_add_one, List.getElem?_eq_getElem hml]; rfl
    have ed : qs.drop m = qs[m] :: qs.drop (m + 1) := List.drop_eq_getElem_cons hml
    have okm := ok.take (m + 1)
    have ef : (qs.take (m + 1)).foldl tabStep ([], []) = tabStep ((qs.take m).foldl tabStep ([], [])) qs[m] := by rw [et, List.foldl_append]; rfl
    rw [et] at okm
    rw [ef] at l1 ⊢
    generalize hst : (qs.take m).foldl tabStep ([], []) = st at ti tk l0 l1 ⊢
    obtain ⟨P, Q⟩ := st
    generalize qs[m] = p at ed okm l1 ⊢
    obtain ⟨x, y⟩ := p
    have hk := insN_le P y
    have hx : ∀ z ∈ Q.flatten, z < x := fun z hz => by
      obtain ⟨q, hq, rfl⟩ := List.mem_map.mp (ti.qf.mem_iff.mp hz)
      exact (List.pairwise_append.mp okm.xs).2.2 q hq (x, y) (by simp)
    have hkQ : (insN P y).2 ≤ Q.length := by rw [← ti.len]; exact hk
    have es : (tabStep (P, Q) (x, y)).2 = secR Q (insN P y).2 x := secN_eq Q _ _ hkQ
    have e1 : (tabStep (P, Q) (x, y)).1 = (insN P y).1 := rfl
    obtain ⟨T, hT1, hT2⟩ := ins_tk P y ti.pr
    obtain ⟨row, r1, r2, r3⟩ := sec_last Q (insN P y).2 x ti.qr hkQ hx
    have pl : (insN P y).1.length ≤ 900 := by
      have h1 := insN_len P y
      have h2 : P.length = Q.length := ti.len
      have h3 : Q.length ≤ 800 := l0
      rw [h1]; split <;> omega
    have pr : ∀ r ∈ (insN P y).1, r.length ≤ 900 := fun r hr => by
      have := insN_rows (M := m) P y tk.r1 r hr
      omega
    rw [es] at l1 ⊢
    rw [e1]
    generalize secR Q (insN P y).2 x = S at r1 r2 r3 l1 ⊢
    generalize (insN P y).2 = k at r1 r2 r3 hT1 ⊢
    have hkS := lt_of_get r1
    cases hS : S with
    | nil => rw [hS] at hkS; cases hkS
    | cons s0 sr =>
    rw [← hS]
    have tru : (!((rI S).map PyData.list).isEmpty) = true := by rw [hS]; rfl
    show if (!((rI S).map PyData.list).isEmpty) = true then _ else _
    rw [tru]
    refine iteT ?_
    have e2 : enuD 0 ((rI S).map PyData.list) = (List.range S.length).map fun j => .tuple [.int (j : Int), eI (S.getD j [])] := by rw [rI_list, enu_mapT]
    refine ⟨_, rfl, sz (by rw [enuD_len, List.length_map, List.length_map]; omega), ?_⟩
    refine lc_all (fun j : Nat => .tuple [.int (j : Int), eI (S.getD j [])]) (fun j => eP ((S.getD j []).getLastD 0, (j : Int))) (List.range S.length) e2 (fun j hj k1 k2 h1 => ?_) ?_
    · have hj := List.mem_range.mp hj
      have hg : S[j]? = some (S.getD j []) := by rw [List.getD_eq_getElem?_getD, List.getElem?_eq_getElem hj]; rfl
      exact ⟨rfl, rfl, _, atI_last (r3 j _ hg).1, sz (by simp), h1⟩
    have em : (List.range S.length).map (fun j => eP ((S.getD j []).getLastD 0, (j : Int))) = ((List.range S.length).map fun j => ((S.getD j []).getLastD 0, (j : Int))).map eP := by rw [List.map_map]; rfl
    rw [em]
    have gk : S.getD k [] = row ++ [x] := by rw [List.getD_eq_getElem?_getD, r1]; rfl
    have kin : (x, (k : Int)) ∈ (List.range S.length).map fun j => ((S.getD j []).getLastD 0, (j : Int)) := List.mem_map.mpr ⟨k, List.mem_range.mpr hkS, by rw [gk]; simp⟩
    have kmax : ∀ r ∈ (List.range S.length).map (fun j => ((S.getD j []).getLastD 0, (j : Int))), r = (x, (k : Int)) ∨ r.1 < (x, (k : Int)).1 := fun r hr => by
      obtain ⟨j, hj, rfl⟩ := List.mem_map.mp hr
      have hj := List.mem_range.mp hj
      have hg : S[j]? = some (S.getD j []) := by rw [List.getD_eq_getElem?_getD, List.getElem?_eq_getElem hj]; rfl
      by_cases hjk : j = k
      · left; rw [hjk, gk]; simp
      · right; exact (r3 j _ hg).2 hjk
    obtain ⟨p0, pr', en⟩ := List.exists_cons_of_ne_nil (List.ne_nil_of_mem kin)
    rw [en] at kin kmax ⊢
    refine ⟨eP p0, pr'.map eP, rfl, mm_P (p0 :: pr'), ?_⟩
    rw [max_P (x, (k : Int)) pr' p0 kin kmax]
    refine ⟨rfl, rfl, rfl, ?_⟩
    refine ⟨(insN P y).1, k, T, y, rfl, pl, pr, hT1, ?_⟩
    rw [hT2]
    have ld : ((qs.drop (m + 1)).reverse.map eP).length < 900 := by rw [List.length_map, List.length_reverse, List.length_drop]; omega
    refine ⟨rfl, rfl, sz (by simp), sz' (by omega), ?_⟩
    refine ⟨k, (row ++ [x]).map .int, ixN_n (by rw [List.length_map]; exact hkS), by rw [List.getElem?_map, r1]; rfl, .int x, by simp, ?_⟩
    have sdl : ((row ++ [x]).map PyData.int).dropLast = row.map .int := by rw [List.map_append]; simp
    rw [sdl, rI_set]
    refine ⟨sz (by rw [List.length_map, List.length_set]; omega), rfl, m, by omega, .sh (.int x), .sh (.int (k : Int)), .sh (.int y), c8, c9, by omega, ?_⟩
    rw [full_rI, r2, ed, List.reverse_cons, List.map_append, hst]
    rfl
end

/-! ### what a table is -/
def IncR (r : List Int) : Prop := r ≠ [] ∧ ∀ i, i + 1 < r.length → r.getD i 0 < r.getD (i + 1) 0
def AdjR (a r : List Int) : Prop := r.length ≤ a.length ∧ ∀ i, i < r.length → a.getD i 0 < r.getD i 0
def IsTab (t : List (List Int)) : Prop := (∀ r ∈ t, IncR r) ∧ ∀ k, k + 1 < t.length → AdjR (t.getD k []) (t.getD (k + 1) [])
def incB (r : List Int) : Bool := !r.isEmpty && (List.range (r.length - 1)).all fun i => decide (r.getD i 0 < r.getD (i + 1) 0)
def adjB (a r : List Int) : Bool := decide (r.length ≤ a.length) && (List.range r.length).all fun i => decide (a.getD i 0 < r.getD i 0)
def tabB (t : List (List Int)) : Bool := (t.all incB) && (List.range (t.length - 1)).all fun k => adjB (t.getD k []) (t.getD (k + 1) [])
theorem incB_iff {r : List Int} : incB r = true ↔ IncR r := by
  unfold incB IncR
  rw [Bool.and_eq_true, List.all_eq_true]
  constructor
  · rintro ⟨h1, h2⟩
    refine ⟨fun z => ?_, fun i hi => of_decide_eq_true (h2 i (List.mem_range.mpr (by omega)))⟩
    rw [z] at h1
    cases h1
  · rintro ⟨h1, h2⟩
    refine ⟨?_, fun i hi => decide_eq_true (h2 i (by have := List.mem_range.mp hi; omega))⟩
    cases r with
    | nil => exact absurd rfl h1
    | cons _ _ => rfl
theorem adjB_iff {a r : List Int} : adjB a r = true ↔ AdjR a r := by
  unfold adjB AdjR
  simp only [Bool.and_eq_true, List.all_eq_true, List.mem_range, decide_eq_true_eq]
theorem tabB_iff {t : List (List Int)} : tabB t = true ↔ IsTab t := by
  unfold tabB IsTab
  simp only [Bool.and_eq_true, List.all_eq_true, List.mem_range]
  constructor
  · rintro ⟨h1, h2⟩
    exact ⟨fun r hr => incB_iff.mp (h1 r hr), fun k hk => adjB_iff.mp (h2 k (by omega))⟩
  · rintro ⟨h1, h2⟩
    exact ⟨fun r hr => incB_iff.mpr (h1 r hr), fun k hk => adjB_iff.mpr (h2 k (by omega))⟩
theorem tabB_no {t : List (List Int)} (h : ¬ IsTab t) : tabB t = false := by
  cases e : tabB t with
  | false => rfl
  | true => exact absurd (tabB_iff.mp e) h
theorem getD_row {t : List (List Int)} {k : Nat} (h : k < t.length) : t[k]? = some (t.getD k []) := by rw [List.getD_eq_getElem?_getD, List.getElem?_eq_getElem h]; rfl
theorem getD_int {t : List Int} {k : Nat} (h : k < t.length) : t[k]? = some (t.getD k 0) := by rw [List.getD_eq_getElem?_getD, List.getElem?_eq_getElem h]; rfl
theorem at_row {t : List (List Int)} {k : Nat} (h : k < t.length) : atI (t.map eI) (k : Int) = some (eI (t.getD k [])) := atI_nat (by rw [List.getElem?_map, getD_row h]; rfl)
theorem at_int {t : List Int} {k : Nat} (h : k < t.length) : atI (t.map PyData.int) (k : Int) = some (.int (t.getD k 0)) := atI_nat (by rw [List.getElem?_map, getD_int h]; rfl)
def specR : List D := [.int 1, .list [.bool true], .list [.str "a"], .tuple [.int 1, .int 2]]
def specT : List D := [.none, .tuple [], .list [.int 1], .list [.list [.bool true]], .list [.list [.str "a"]], .list [.tuple [.int 1, .int 2]]]
def RowIs (d : D) (b : Bool) : Prop := (∃ r : List Int, d = eI r ∧ r.length ≤ 1000 ∧ b = incB r) ∨ (d ∈ specR ∧ b = false)
def TabIs (d : D) (b : Bool) : Prop := (∃ t : List (List Int), d = eT t ∧ t.length ≤ 1000 ∧ (∀ r ∈ t, r.length ≤ 1000) ∧ b = tabB t) ∨ (d ∈ specT ∧ b = false)
def pIsRow : Prom := fun cs Q => ∃ (d : D) (b : Bool), cs = [.sh d] ∧ RowIs d b ∧ Q (.bool b)
def pIsTab : Prom := fun cs Q => ∃ (d : D) (b : Bool), cs = [.sh d] ∧ TabIs d b ∧ Q (.bool b)
theorem zip_get {m i : Nat} {dss : List (List D)} {x : D} (h : (zipD m dss)[i]? = some x) : i < m ∧ x = .tuple (dss.map fun ds => ds.getD i .none) := by
  unfold zipD at h
  have hl : i < m := by
    have := lt_of_get h
    simpa using this
  rw [List.getElem?_map, List.getElem?_range hl] at h
  cases h
  exact ⟨hl, rfl⟩
theorem zip_len1 {m : Nat} {dss : List (List D)} : (zipD m dss).length = m := by simp [zipD]
theorem lay_I (r : List Int) : (eI r).canLay0 = true := by
  rw [PyData.canLay0]
  exact lay_all fun d hd => by obtain ⟨p, _, rfl⟩ := List.mem_map.mp hd; rfl
theorem dep_I (r : List Int) : (eI r).depth ≤ 3 := by
  rw [PyData.depth]
  have : PyData.depthAll (r.map PyData.int) ≤ 2 := dep_all fun d hd => by
    obtain ⟨p, _, rfl⟩ := List.mem_map.mp hd
    simp [PyData.depth]
  omega
def c1Of (ρ : List C) : Prop := ρ[1]? = some (.sh (.int (0 + ((0 : Nat) : Int))))
section
variable {P : Program} {w : World} {K : Fg} {mg : Str → Option Value} {base : Heap}
end
/-! ### tables as the law makes them -/
theorem placed_spec {row : List Int} (hp : row.Pairwise (· < ·)) (n : Int) : ((∀ x ∈ row, ¬ n < x) ∧ placedN row n = (row ++ [n], none)) ∨ ∃ p z, row[p]? = some z ∧ n < z ∧ (∀ x ∈ row, n < x → z ≤ x) ∧ (∀ j x, j < p → row[j]? = some x → x ≠ z) ∧ placedN row n = (row.set p n, some z) := by
  induction row with
  | nil => exact .inl ⟨by simp, rfl⟩
  | cons x r ih =>
    rw [List.pairwise_cons] at hp
    by_cases hx : n < x
    · refine .inr ⟨0, x, rfl, hx, fun y hy _ => ?_, fun j y hj => absurd hj (by omega), by simp [placedN, hx]⟩
      rcases List.mem_cons.mp hy with rfl | hy
      · exact Int.le_refl _
      · have := hp.1 y hy; omega
    · have e : placedN (x :: r) n = (x :: (placedN r n).1, (placedN r n).2) := by simp [placedN, hx]
      rcases ih hp.2 with ⟨h1, h2⟩ | ⟨p, z, h1, h2, h3, h4, h5⟩
      · refine .inl ⟨fun y hy => ?_, by rw [e, h2]; rfl⟩
        rcases List.mem_cons.mp hy with rfl | hy
        · exact hx
        · exact h1 y hy
      · refine .inr ⟨p + 1, z, by simpa using h1, h2, fun y hy hn => ?_, fun j y hj hy => ?_, by rw [e, h5]; rfl⟩
        · rcases List.mem_cons.mp hy with rfl | hy
          · exact absurd hn hx
          · exact h3 y hy hn
        · cases j with
          | zero =>
            simp at hy
            subst hy
            have := hp.1 z (List.mem_of_getElem? h1)
            omega
          | succ j => exact h4 j y (by omega) (by simpa using hy)
def pLIns : Prom := fun cs Q => ∃ (t : List (List Int)) (n : Int), cs = [.sh (eT t), .sh (.int n)] ∧ t.length ≤ 900 ∧ (∀ row ∈ t, row.length ≤ 900) ∧ RowsInc t ∧ Q (.list [eT (insN t n).1, .int (insN t n).2])
def pLTab : Prom := fun cs Q => ∃ qs : List (Int × Int), cs = [.sh (.list (qs.map eP))] ∧ PtsOk qs ∧ qs.length ≤ 800 ∧ Q (.tuple [eT (tabN qs).1, eT (tabN qs).2])
section
variable {P : Program} {w : World} {K : Fg} {mg : Str → Option Value} {base : Heap}
end
/-! ### inserting keeps tables -/
theorem pw_get {r : List Int} (h : r.Pairwise (· < ·)) {i j : Nat} (hij : i < j) (hj : j < r.length) : r.getD i 0 < r.getD j 0 := by
  have := (List.pairwise_iff_getElem.mp h) i j (by omega) hj hij
  rw [List.getD_eq_getElem?_getD, List.getD_eq_getElem?_getD, List.getElem?_eq_getElem hj, List.getElem?_eq_getElem (by omega)]
  exact this
theorem inc_of {r : List Int} (h : r ≠ [] ∧ r.Pairwise (· < ·)) : IncR r := ⟨h.1, fun i hi => pw_get h.2 (by omega) hi⟩
theorem isTab_cons {r : List Int} {t : List (List Int)} : IsTab (r :: t) ↔ IncR r ∧ (t ≠ [] → AdjR r (t.headD [])) ∧ IsTab t := by
  constructor
  · rintro ⟨h1, h2⟩
    refine ⟨h1 r List.mem_cons_self, fun hne => ?_, fun s hs => h1 s (List.mem_cons_of_mem _ hs), fun k hk => h2 (k + 1) (by simpa using hk)⟩
    obtain ⟨s, t', rfl⟩ := List.exists_cons_of_ne_nil hne
    exact h2 0 (by simp)
  · rintro ⟨h1, h2, h3, h4⟩
    refine ⟨fun s hs => ?_, fun k hk => ?_⟩
    · rcases List.mem_cons.mp hs with rfl | hs
      · exact h1
      · exact h3 s hs
    · cases k with
      | zero =>
        cases t with
        | nil => simp at hk
        | cons s t' => exact h2 (by simp)
      | succ k => exact h4 k (by simpa using hk)
theorem getD_set {r : List Int} {p i : Nat} {m : Int} (hp : p < r.length) : (r.set p m).getD i 0 = if i = p then m else r.getD i 0 := by
  rw [List.getD_eq_getElem?_getD, List.getD_eq_getElem?_getD, List.getElem?_set]
  by_cases h : p = i
  · subst h; simp [hp]
  · rw [if_neg h, if_neg (Ne.symm h)]
theorem getD_app {r : List Int} {i : Nat} {m : Int} : (r ++ [m]).getD i 0 = if i = r.length then m else if i < r.length then r.getD i 0 else 0 := by
  rw [List.getD_eq_getElem?_getD]
  by_cases h : i < r.length
  · rw [List.getElem?_append_left h, if_neg (by omega), if_pos h, List.getD_eq_getElem?_getD]
  · rw [List.getElem?_append_right (by omega)]
    by_cases h2 : i = r.length
    · rw [if_pos h2, h2]; simp
    · rw [if_neg h2, if_neg h, List.getElem?_eq_none (by simp; omega)]; rfl
theorem bump_adj {A R : List Int} {n m : Int} (hA : A.Pairwise (· < ·)) (hR : R.Pairwise (· < ·)) (ad : AdjR A R) {p : Nat} (hp : A[p]? = some m) (hn : n < m) : AdjR (A.set p n) (placedN R m).1 := by
  have pl := lt_of_get hp
  have Ap : A.getD p 0 = m := by rw [List.getD_eq_getElem?_getD, hp]; rfl
  have low : ∀ i, (A.set p n).getD i 0 ≤ A.getD i 0 := fun i => by
    rw [getD_set pl]
    split
    · next h => rw [h, Ap]; omega
    · exact Int.le_refl _
  have bel : ∀ i, i ≤ p → (A.set p n).getD i 0 < m := fun i hi => by
    rw [getD_set pl]
    split
    · exact hn
    · next h => have := pw_get hA (show i < p by omega) pl; omega
  rcases placed_spec hR m with ⟨h1, h2⟩ | ⟨q, z, h1, h2, h3, h4, h5⟩
  · rw [h2]
    have hRp : R.length ≤ p := by
      by_cases h : p < R.length
      · have := ad.2 p h
        rw [Ap] at this
        have hm : R.getD p 0 ∈ R := List.mem_of_getElem? (getD_int h)
        exact absurd this (h1 _ hm)
      · omega
    refine ⟨by rw [List.length_append, List.length_set]; simp; omega, fun i hi => ?_⟩
    rw [List.length_append] at hi
    simp at hi
    rw [getD_app]
    by_cases h : i = R.length
    · rw [if_pos h]; exact bel i (by omega)
    · rw [if_neg h, if_pos (by omega)]
      have := ad.2 i (by omega)
      have := low i
      omega
  · rw [h5]
    have ql := lt_of_get h1
    have Rq : R.getD q 0 = z := by rw [List.getD_eq_getElem?_getD, h1]; rfl
    have hqp : q ≤ p := by
      by_cases h : q ≤ p
      · exact h
      · have hpR : p < R.length := by omega
        have a1 := ad.2 p hpR
        rw [Ap] at a1
        have a2 := h3 (R.getD p 0) (List.mem_of_getElem? (getD_int hpR)) a1
        have a3 := pw_get hR (show p < q by omega) ql
        omega
    refine ⟨by rw [List.length_set, List.length_set]; exact ad.1, fun i hi => ?_⟩
    rw [List.length_set] at hi
    rw [getD_set ql]
    split
    · next h => rw [h]; exact bel q hqp
    · have := ad.2 i hi
      have := low i
      omega
theorem ins_head : ∀ (t : List (List Int)) (n : Int), (insN t n).1.headD [] = (placedN (t.headD []) n).1 ∧ (insN t n).1 ≠ []
  | [], n => ⟨rfl, by simp [insN]⟩
  | row :: rest, n => by
    cases hp : (placedN row n).2 with
    | none => simp [insN, hp]
    | some m => simp [insN, hp]
theorem ins_tab : ∀ (t : List (List Int)) (n : Int), RowsInc t → t.flatten.Nodup → n ∉ t.flatten → IsTab t → IsTab (insN t n).1
  | [], n, _, _, _, _ => by
    have : (insN [] n).1 = [[n]] := rfl
    rw [this, isTab_cons]
    exact ⟨inc_of (by simp), fun h => absurd rfl h, ⟨fun r hr => by simp at hr, fun k hk => by simp at hk⟩⟩
  | row :: rest, n, h, nd, hn, ht => by
    have h0 := h row List.mem_cons_self
    have nd' := nd
    have hn' := hn
    rw [List.flatten_cons, List.nodup_append] at nd'
    rw [List.flatten_cons, List.mem_append, not_or] at hn'
    obtain ⟨t1, t2, t3⟩ := isTab_cons.mp ht
    obtain ⟨k1, k2, _, k4⟩ := placed_keeps row n h0.2 hn'.1
    have inc' := inc_of ⟨k2, k1⟩
    rcases placed_spec h0.2 n with ⟨h1, h2⟩ | ⟨p, m, h1, h2, h3, h4, h5⟩
    · have e : insN (row :: rest) n = ((row ++ [n]) :: rest, 0) := by simp [insN, h2]
      rw [h2] at inc'
      rw [e, isTab_cons]
      refine ⟨inc', fun hne => ?_, t3⟩
      have ad := t2 hne
      refine ⟨by rw [List.length_append]; have := ad.1; omega, fun i hi => ?_⟩
      have := ad.2 i hi
      have := ad.1
      rw [getD_app, if_neg (by omega), if_pos (by omega)]
      omega
    · have e : insN (row :: rest) n = (row.set p n :: (insN rest m).1, (insN rest m).2 + 1) := by simp [insN, h5]
      have hs : (placedN row n).2 = some m := by rw [h5]
      obtain ⟨a1, a2, a3, a4⟩ := k4 m hs
      have hm : m ∉ rest.flatten := fun hm => nd'.2.2 m a3 m hm rfl
      rw [h5] at inc'
      rw [e, isTab_cons]
      refine ⟨inc', fun _ => ?_, ins_tab rest m h.tail nd'.2.1 hm t3⟩
      rw [(ins_head rest m).1]
      cases rest with
      | nil => exact bump_adj h0.2 .nil ⟨by simp, fun i hi => by simp at hi⟩ h1 h2
      | cons r rr => exact bump_adj h0.2 (h.tail r List.mem_cons_self).2 (t2 (by simp)) h1 h2
theorem addL_adj : ∀ (ls : List Nat) (k : Nat), k ≤ ls.length → (addL ls k).Pairwise (· ≥ ·) → ∀ i, i + 1 = k → i < ls.length → ls.getD k 0 + 1 ≤ ls.getD i 0
  | [], k, _, _, i, _, hi => by simp at hi
  | l :: r, 0, _, _, i, hi, _ => by omega
  | l :: r, k + 1, hk, hp, i, hi, hl => by
    have hik : i = k := by omega
    subst hik
    unfold addL at hp
    rw [List.pairwise_cons] at hp
    cases i with
    | zero =>
      cases r with
      | nil =>
        have := hp.1 1 (by simp [addL])
        simp
        omega
      | cons a r =>
        have := hp.1 (a + 1) (by simp [addL])
        simpa using this
    | succ j =>
      have := addL_adj r (j + 1) (by simpa using hk) hp.2 j rfl (by simpa using hl)
      simpa using this
theorem sec_tab : ∀ (s : List (List Int)) (k : Nat) (x : Int), k ≤ s.length → IsTab s → (∀ z ∈ s.flatten, z < x) → RowsInc s → (∀ i, i + 1 = k → i < s.length → (s.getD k []).length + 1 ≤ (s.getD i []).length) → IsTab (secR s k x) ∧ (secR s k x).headD [] = (if k = 0 then s.headD [] ++ [x] else s.headD [])
  | [], k, x, hk, _, _, _, _ => by
    have : k = 0 := by simpa using hk
    subst this
    refine ⟨?_, rfl⟩
    show IsTab [[x]]
    rw [isTab_cons]
    exact ⟨inc_of (by simp), fun h => absurd rfl h, ⟨fun r hr => by simp at hr, fun k hk => by simp at hk⟩⟩
  | row :: r, 0, x, _, ht, hx, hi, _ => by
    refine ⟨?_, rfl⟩
    show IsTab ((row ++ [x]) :: r)
    obtain ⟨t1, t2, t3⟩ := isTab_cons.mp ht
    have h0 := hi row List.mem_cons_self
    rw [isTab_cons]
    refine ⟨inc_of ⟨by simp, List.pairwise_append.mpr ⟨h0.2, by simp, fun a ha b hb => ?_⟩⟩, fun hne => ?_, t3⟩
    · rw [List.mem_singleton.mp hb]
      exact hx a (by rw [List.flatten_cons]; exact List.mem_append_left _ ha)
    · have ad := t2 hne
      refine ⟨by rw [List.length_append]; have := ad.1; omega, fun i hi => ?_⟩
      have := ad.2 i hi
      have := ad.1
      rw [getD_app, if_neg (by omega), if_pos (by omega)]
      omega
  | row :: r, k + 1, x, hk, ht, hx, hi, hl => by
    obtain ⟨t1, t2, t3⟩ := isTab_cons.mp ht
    have h0 := hi row List.mem_cons_self
    obtain ⟨a1, a2⟩ := sec_tab r k x (by simpa using hk) t3 (fun z hz => hx z (by rw [List.flatten_cons]; exact List.mem_append_right _ hz)) hi.tail (fun i e hi' => by have := hl (i + 1) (by omega) (by simpa using hi'); simpa using this)
    refine ⟨?_, rfl⟩
    show IsTab (row :: secR r k x)
    rw [isTab_cons]
    refine ⟨t1, fun _ => ?_, a1⟩
    rw [a2]
    by_cases hk0 : k = 0
    · subst hk0
      rw [if_pos rfl]
      have hlen := hl 0 rfl (by simp)
      have hd : (row :: r).getD 1 [] = r.headD [] := by cases r <;> rfl
      have h00 : (row :: r).getD 0 [] = row := rfl
      rw [h00, hd] at hlen
      have hlen : (r.headD []).length + 1 ≤ row.length := hlen
      refine ⟨by rw [List.length_append]; exact hlen, fun i hi' => ?_⟩
      rw [List.length_append] at hi'
      have hi2 : i < (r.headD []).length + 1 := hi'
      rw [getD_app]
      by_cases h : i = (r.headD []).length
      · rw [if_pos h]
        have : row.getD i 0 ∈ row := List.mem_of_getElem? (getD_int (show i < row.length by rw [h]; exact hlen))
        exact hx _ (by rw [List.flatten_cons]; exact List.mem_append_left _ this)
      · have hi3 : i < (r.headD []).length := by omega
        rw [if_neg h, if_pos hi3]
        cases r with
        | nil => exact absurd hi3 (by simp)
        | cons s r' => exact (t2 (by simp)).2 i hi3
    · rw [if_neg hk0]
      cases r with
      | nil => exact absurd (by simpa using hk) hk0
      | cons s r' => exact t2 (by simp)
theorem tab_lens {t : List (List Int)} (h : IsTab t) : (t.map List.length).Pairwise (· ≥ ·) := by
  induction t with
  | nil => exact .nil
  | cons r t ih =>
    obtain ⟨h1, h2, h3⟩ := isTab_cons.mp h
    have ih := ih h3
    rw [List.map_cons, List.pairwise_cons]
    refine ⟨fun l hl => ?_, ih⟩
    cases t with
    | nil => simp at hl
    | cons s t' =>
      have ad := (h2 (by simp)).1
      rw [List.map_cons] at hl ih
      rw [List.pairwise_cons] at ih
      rcases List.mem_cons.mp hl with rfl | hl
      · exact ad
      · have := ih.1 l hl
        have ad : s.length ≤ r.length := ad
        omega
theorem both_tab {qs : List (Int × Int)} (ok : PtsOk qs) : ∀ i, IsTab ((qs.take i).foldl tabStep ([], [])).1 ∧ IsTab ((qs.take i).foldl tabStep ([], [])).2
  | 0 => ⟨⟨fun r hr => by simp at hr, fun k hk => by simp at hk⟩, ⟨fun r hr => by simp at hr, fun k hk => by simp at hk⟩⟩
  | i + 1 => by
    by_cases hi : i < qs.length
    · have e : qs.take (i + 1) = qs.take i ++ [qs[i]] := by rw [List.take_add_one, List.getElem?_eq_getElem hi]; rfl
      have okm := ok.take (i + 1)
      obtain ⟨b1, b2⟩ := both_tab ok i
      have ti := ti_at ok i
      rw [e] at okm ⊢
      rw [List.foldl_append]
      generalize (qs.take i).foldl tabStep ([], []) = st at ti b1 b2 ⊢
      obtain ⟨P, Q⟩ := st
      generalize qs[i] = p at okm ⊢
      obtain ⟨x, y⟩ := p
      have hx : ∀ z ∈ Q.flatten, z < x := fun z hz => by
        obtain ⟨q, hq, rfl⟩ := List.mem_map.mp (ti.qf.mem_iff.mp hz)
        exact (List.pairwise_append.mp okm.xs).2.2 q hq (x, y) (by simp)
      have ys := okm.ys
      rw [List.map_append, List.nodup_append] at ys
      have hy : y ∉ P.flatten := fun hm => ys.2.2 y (ti.pf.mem_iff.mp hm) y (by simp) rfl
      have pn : P.flatten.Nodup := ti.pf.symm.nodup ys.1
      have hk : (insN P y).2 ≤ Q.length := by have h1 : P.length = Q.length := ti.len; have := insN_le P y; omega
      have tP := ins_tab P y ti.pr pn hy b1
      refine ⟨tP, ?_⟩
      show IsTab (secN Q (insN P y).2 x)
      rw [secN_eq Q _ _ hk]
      obtain ⟨_, _, ls⟩ := ins_keeps P y ti.pr pn hy
      have lp := tab_lens tP
      rw [ls, show P.map List.length = Q.map List.length from ti.sh] at lp
      refine (sec_tab Q _ x hk b2 hx ti.qr fun j hj hjl => ?_).1
      have := addL_adj (Q.map List.length) _ (by rw [List.length_map]; exact hk) lp j hj (by rw [List.length_map]; exact hjl)
      have g : ∀ (a : Nat), (Q.map List.length).getD a 0 = (Q.getD a []).length := fun a => by
        rw [List.getD_eq_getElem?_getD, List.getD_eq_getElem?_getD, List.getElem?_map]
        cases Q[a]? <;> rfl
      rw [g, g] at this
      exact this
    · have h := both_tab ok i
      rw [List.take_of_length_le (by omega)] at h ⊢
      exact h

/-! ### points in general place -/
theorem any_int (ls : List Int) (v : Int) : ((ls.map PyData.int).any fun z => PyData.eqv z (.int v)) = decide (v ∈ ls) := by
  have h := any_nb (ds := ls.map PyData.int) (d := .int v) (nbAll_mem fun d hd => by obtain ⟨p, _, rfl⟩ := List.mem_map.mp hd; rfl) rfl
  have h2 : (PyData.int v ∈ ls.map PyData.int) ↔ v ∈ ls := by
    rw [List.mem_map]
    exact ⟨fun ⟨a, ha, e⟩ => by cases e; exact ha, fun h => ⟨v, h, rfl⟩⟩
  by_cases hv : v ∈ ls
  · rw [decide_eq_true hv]; exact h.mpr (h2.mpr hv)
  · rw [decide_eq_false hv]
    cases e : ((ls.map PyData.int).any fun z => PyData.eqv z (.int v)) with
    | false => rfl
    | true => exact absurd (h2.mp (h.mp e)) hv
def pLPts (K : Fg) : Prom := fun cs Q => ∃ (sa : Addr) (most : Nat), cs = [.mo (PoolI K sa), .sh (.int (most : Int))] ∧ most ≤ 30 ∧ ∀ qs, PtsOk qs → qs.length ≤ most → Q (.list (qs.map eP))
theorem pts_of {xs ys : List Int} (hl : ys.length = xs.length) (hx : xs.Nodup) (hy : ys.Nodup) {qs : List (Int × Int)} (hp : qs.Perm ((List.range xs.length).map fun k => (xs.getD k 0, ys.getD k 0))) (hs : qs.Pairwise fun p q => ¬ TL.lexP q p = true) : PtsOk qs ∧ qs.length = xs.length := by
  have e1 : ((List.range xs.length).map fun k => (xs.getD k 0, ys.getD k 0)).map (·.1) = xs := by
    rw [List.map_map]
    apply List.ext_getElem?
    intro i
    rw [List.getElem?_map]
    by_cases h : i < xs.length
    · rw [List.getElem?_range h]
      simp [List.getD_eq_getElem?_getD, h]
    · simp [h]
  have e2 : ((List.range xs.length).map fun k => (xs.getD k 0, ys.getD k 0)).map (·.2) = ys := by
    rw [List.map_map]
    apply List.ext_getElem?
    intro i
    rw [List.getElem?_map]
    by_cases h : i < xs.length
    · rw [List.getElem?_range h]
      simp [List.getD_eq_getElem?_getD, hl, h]
    · simp [h, hl]
  have nx : (qs.map (·.1)).Nodup := ((hp.map (·.1)).trans (by rw [e1])).symm.nodup hx
  have ny : (qs.map (·.2)).Nodup := ((hp.map (·.2)).trans (by rw [e2])).symm.nodup hy
  refine ⟨⟨?_, ny⟩, by rw [hp.length_eq]; simp⟩
  rw [List.Nodup, List.pairwise_map] at nx
  refine (hs.and nx).imp fun {p q} ⟨h1, h2⟩ => ?_
  by_cases h : q.1 < p.1
  · exact absurd (SrtO.lexB_iff.mpr (.inl h)) h1
  · omega
abbrev s_law_points : Stmt := topS 15
theorem sc_law_points : FnScope ["pool", "most", "many", "top", "xs", "ys", "k", "x", "y", "way"] ["pool", "most"] (defScope s_law_points) := ⟨rfl, rfl, rfl, by decide +kernel, rfl, by decide +kernel, by decide +kernel⟩
section
variable {P : Program} {w : World} {K : Fg} {mg : Str → Option Value} {base : Heap}
theorem ok_lpts (D : Df K mg "_law_points" s_law_points ["pool", "most"]) (c_law_draw : Cal P w K mg base "_law_draw" 3 ["pool", "limit"] (pDraw K)) (c_law_pick : Cal P w K mg base "_law_pick" 4 ["pool", "options"] (pPick K)) (m_sorted : mg "sorted" = none) (m_len : mg "len" = none) (m_range : mg "range" = none) : Cal P w K mg base "_law_points" 5 ["pool", "most"] (pLPts K) := by
  have nd := sc_law_points.nd
  refine cal_ok D sc_law_points (fun cs Q ⟨sa, m, h, _⟩ => by rw [h]; rfl) (fun f cdv A outer s H E hr => ⟨_, by
  have hu65 := Room.units65 hr
  exact
(vss_cons (vs_set (n := 2) nd rfl (vc_cal c_law_draw (hr.mono (by decide)) (va_cons (vc_var (pv 0)) (va_cons (vc_add (se_var (pv 1)) vc_int.se) va_nil))))
    (vss_cons (vs_set (n := 3) nd rfl (vc_cal c_law_pick (hr.mono (by decide)) (va_cons (vc_var (pv 0)) (va_cons (vc_lst (vl_cons (vc_add (se_var (pv 2)) vc_int.se) (vl_cons vc_int (vl_cons vc_int vl_nil)))) va_nil))))
    (vss_cons (vs_set (n := 4) nd rfl (vc_lst vl_nil))
    (vss_cons (vs_set (n := 5) nd rfl (vc_lst vl_nil))
    (vss_cons (vs_for (vi_rng1 (vc_mul vc_int.se (se_var (pv 2))).se (by rfl) m_range) (vn_name (n := 6) nd rfl).vg
      (vss_cons (vs_set (n := 7) nd rfl (vc_sub (vc_cal c_law_draw (hr.mono (by decide)) (va_cons (vc_var (pv 0)) (va_cons (vc_mul vc_int.se (se_var (pv 3))) va_nil))).se (se_var (pv 3))))
      (vss_cons (vs_set (n := 8) nd rfl (vc_sub (vc_cal c_law_draw (hr.mono (by decide)) (va_cons (vc_var (pv 0)) (va_cons (vc_mul vc_int.se (se_var (pv 3))) va_nil))).se (se_var (pv 3))))
      (vss_one (vs_if (wb_and (vb_cmp (op_notInD hu65) ok_notIn (se_var (pv 7)) (se_var (pv 4))) (wb_and (vb_cmp (op_notInD hu65) ok_notIn (se_var (pv 8)) (se_var (pv 5))) (wb_and1 (vb_cmp op_lt ok_lt (vc_len (se_var (pv 4)) (by rfl) m_len).se (se_var (pv 2)))))).vb
        (vss_cons (vs_append 4 (pv 4) (vc_var (pv 7)))
        (vss_one (vs_append 5 (pv 5) (vc_var (pv 8)))))
        vss_nil)))))
    (vss_cons (vs_set (n := 9) nd rfl (vc_cal c_law_draw (hr.mono (by decide)) (va_cons (vc_var (pv 0)) (va_cons vc_int va_nil))))
    (vss_cons (vs_cut (vs_if (vb_cmp (op_eqA hr.units) ok_eq (se_var (pv 9)) vc_int.se)
      (vss_cons (vs_set (n := 5) nd rfl (vc_sortI (se_var (pv 5)) (by rfl) m_sorted))
      (vss_one (vs_set (n := 4) nd rfl (vc_sortI (se_var (pv 4)) (by rfl) m_sorted))))
      vss_nil))
    (vss_cons (vs_cut (vs_if (vb_cmp (op_eqA hr.units) ok_eq (se_var (pv 9)) vc_int.se)
      (vss_cons (vs_set (n := 5) nd rfl (vc_rev (vc_sortI (se_var (pv 5)) (by rfl) m_sorted).se))
      (vss_one (vs_set (n := 4) nd rfl (vc_sortI (se_var (pv 4)) (by rfl) m_sorted))))
      vss_nil))
    (vss_one (vs_ret (vc_sortP (vc_lc (own := [("k", 6)]) nd (vi_rng1 (vc_len (se_var (pv 4)) (by rfl) m_len).se (by rfl) m_range).vj (blk_ok (N := ["pool", "most", "many", "top", "xs", "ys", "k", "x", "y", "way"]) (sc := defScope s_law_points) (by decide +kernel)) (fun _ _ _ _ _ => (vn_name (n := 6) nd rfl)) (fun _ _ _ _ _ => vts_nil) (fun _ _ _ _ _ => (vc_tup (vl_cons (vc_ix (se_var (pv 4)) (se_var (pv 6))) (vl_cons (vc_ix (se_var (pv 5)) (se_var (pv 6))) vl_nil))))).se (by rfl) m_sorted)))))))))))
    , fun cs Q ⟨sa, most, hc, hm, q⟩ => ?_⟩)
  subst hc
  refine ⟨sa, _, rfl, by omega, by omega, fun v v0 v1 => ?_⟩
  obtain ⟨many, rfl⟩ := Int.eq_ofNat_of_zero_le v0
  refine ⟨sz (by simp), sa, _, rfl, by simp, by simp, fun d hd => ?_⟩
  have hd' : ∃ top : Int, d = .int top ∧ 0 < top ∧ top ≤ 1000 := by
    simp only [List.mem_cons, List.not_mem_nil, or_false] at hd
    rcases hd with rfl | rfl | rfl
    · exact ⟨_, rfl, by omega, by omega⟩
    · exact ⟨_, rfl, by decide, by decide⟩
    · exact ⟨_, rfl, by decide, by decide⟩
  obtain ⟨top, rfl, t0, t1⟩ := hd'
  refine ⟨sz (by simp), sz (by simp), .inl ⟨by decide, by decide⟩, by omega, by omega, fun i ρ => ∃ (xs ys : List Int) (c6 c7 c8 c9 : C), ρ = [.mo (PoolI K sa), .sh (.int (most : Int)), .sh (.int (many : Int)), .sh (.int top), .ol (xs.map .int), .ol (ys.map .int), c6, c7, c8, c9] ∧ ys.length = xs.length ∧ xs.length ≤ many ∧ xs.Nodup ∧ ys.Nodup,
    ⟨[], [], _, _, _, _, rfl, rfl, Nat.zero_le _, .nil, .nil⟩, fun i x ρ hx ⟨xs, ys, c6, c7, c8, c9, hρ, h1, h2, h3, h4⟩ => ?_, fun ρ ⟨xs, ys, c6, c7, c8, c9, hρ, h1, h2, h3, h4⟩ => ?_⟩
  · subst hρ
    refine ⟨.inl ⟨by decide, by decide⟩, sa, _, rfl, by omega, by omega, fun u u0 u1 => ⟨.inl ⟨by decide, by decide⟩, sa, _, rfl, by omega, by omega, fun w w0 w1 => ?_⟩⟩
    have dx := dep_I xs
    have dy := dep_I ys
    refine ⟨_, _, rfl, rfl, rfl, shaped_of (lay_I xs) (Nat.le_trans dx (by decide)), ?_⟩
    show if (!((xs.map PyData.int).any fun z => PyData.eqv z (.int (u - top)))) = true then _ else _
    rw [any_int]
    refine itn (fun n1 => ?_) (fun _ => ⟨xs, ys, _, _, _, _, rfl, h1, h2, h3, h4⟩)
    refine ⟨_, _, rfl, rfl, rfl, shaped_of (lay_I ys) (Nat.le_trans dy (by decide)), ?_⟩
    show if (!((ys.map PyData.int).any fun z => PyData.eqv z (.int (w - top)))) = true then _ else _
    rw [any_int]
    refine itn (fun n2 => ?_) (fun _ => ⟨xs, ys, _, _, _, _, rfl, h1, h2, h3, h4⟩)
    show (xs.map PyData.int).length ≤ sizeLine → _
    rw [List.length_map]
    refine fun _ => ?_
    show if decide ((xs.length : Int) < (many : Int)) = true then _ else _
    refine itd (fun h => ?_) (fun _ => ⟨xs, ys, _, _, _, _, rfl, h1, h2, h3, h4⟩)
    refine ⟨sz' (by rw [List.length_map]; omega), sz' (by rw [List.length_map]; omega), xs ++ [u - top], ys ++ [w - top], _, _, _, _, by rw [List.map_append, List.map_append]; rfl, by simp [h1], by simp; omega, ?_, ?_⟩
    · exact List.nodup_append.mpr ⟨h3, by simp, fun a ha b hb z => n1 (by rw [List.mem_singleton.mp hb] at z; rw [← z]; exact ha)⟩
    · exact List.nodup_append.mpr ⟨h4, by simp, fun a ha b hb z => n2 (by rw [List.mem_singleton.mp hb] at z; rw [← z]; exact ha)⟩
  · subst hρ
    refine ⟨sa, _, rfl, by decide, by decide, fun way y0 y1 => ?_⟩
    refine ⟨fun ρ => ∃ (xs ys : List Int), ρ = [.mo (PoolI K sa), .sh (.int (most : Int)), .sh (.int (many : Int)), .sh (.int top), .ol (xs.map .int), .ol (ys.map .int), c6, c7, c8, .sh (.int way)] ∧ ys.length = xs.length ∧ xs.length ≤ many ∧ xs.Nodup ∧ ys.Nodup, ?_, ?_⟩
    · show if decide (way = 0) = true then _ else _
      refine itd (fun _ => ?_) (fun _ => ⟨xs, ys, rfl, h1, h2, h3, h4⟩)
      refine ⟨ys, rfl, fun ys' p1 _ => ⟨xs, rfl, fun xs' p2 _ => ⟨xs', ys', rfl, by rw [p1.length_eq, p2.length_eq, h1], by rw [p2.length_eq]; exact h2, p2.symm.nodup h3, p1.symm.nodup h4⟩⟩⟩
    · rintro ρ ⟨xs, ys, rfl, h1, h2, h3, h4⟩
      refine ⟨fun ρ => ∃ (xs ys : List Int), ρ = [.mo (PoolI K sa), .sh (.int (most : Int)), .sh (.int (many : Int)), .sh (.int top), .ol (xs.map .int), .ol (ys.map .int), c6, c7, c8, .sh (.int way)] ∧ ys.length = xs.length ∧ xs.length ≤ many ∧ xs.Nodup ∧ ys.Nodup, ?_, ?_⟩
      · show if decide (way = 1) = true then _ else _
        refine itd (fun _ => ?_) (fun _ => ⟨xs, ys, rfl, h1, h2, h3, h4⟩)
        refine ⟨ys, rfl, fun ys' p1 _ => ⟨_, rfl, xs, rfl, fun xs' p2 _ => ⟨xs', ys'.reverse, by rw [List.map_reverse]; rfl, by rw [List.length_reverse, p1.length_eq, p2.length_eq, h1], by rw [p2.length_eq]; exact h2, p2.symm.nodup h3, ?_⟩⟩⟩
        exact (List.reverse_perm ys').symm.nodup (p1.symm.nodup h4)
      · rintro ρ ⟨xs, ys, rfl, h1, h2, h3, h4⟩
        refine fun _ => ⟨by rw [List.length_map]; omega, by rw [List.length_map]; omega, ?_⟩
        have ec : (((xs.map PyData.int).length : Int)).toNat = xs.length := by rw [List.length_map]; omega
        rw [ec]
        refine ⟨by rw [rng_len]; exact sz (by omega), ?_⟩
        refine lc_all (fun j : Nat => .int (j : Int)) (fun j => eP (xs.getD j 0, ys.getD j 0)) (List.range xs.length) rng_map (fun j hj k1 k2 h1' => ?_) ?_
        · have hj := List.mem_range.mp hj
          exact ⟨_, at_int hj, _, at_int (by omega), sz (by simp), h1'⟩
        refine ⟨(List.range xs.length).map fun j => (xs.getD j 0, ys.getD j 0), by rw [List.map_map]; rfl, fun qs hp hs => ?_⟩
        obtain ⟨ok, hl⟩ := pts_of h1 h3 h4 hp hs
        exact q qs ok (by omega)
end

end My
namespace My
open PySem PySem.Spec PyProof.Rows L2 TL
open PyData (strOk)
/-! ### words, colours -/
/-- a colouring of a word whose classes go up (or down) -/
def GoodW (R : Int → Int → Prop) (f : Int → Nat) (w : List Int) : Prop := w.Pairwise fun p q => f p = f q → f p ≠ 0 → R p q
def cntW (f : Int → Nat) (w : List Int) : Nat := (w.filter fun p => decide (f p ≠ 0)).length
/-- n elements of the word in k classes -/
def Can (R : Int → Int → Prop) (k : Nat) (w : List Int) (n : Nat) : Prop := ∃ f : Int → Nat, GoodW R f w ∧ (∀ p ∈ w, f p ≤ k) ∧ cntW f w = n
/-- one step of Knuth -/
inductive KStep : List Int → List Int → Prop
  | a (u v : List Int) (x y z : Int) : x < y → y < z → KStep (u ++ (y :: x :: z :: v)) (u ++ (y :: z :: x :: v))
  | b (u v : List Int) (x y z : Int) : x < y → y < z → KStep (u ++ (x :: z :: y :: v)) (u ++ (z :: x :: y :: v))
inductive Kn : List Int → List Int → Prop
  | refl (w : List Int) : Kn w w
  | fwd {u v w : List Int} : Kn u v → KStep v w → Kn u w
  | bwd {u v w : List Int} : Kn u v → KStep w v → Kn u w
theorem Kn.trans {u v : List Int} (h : Kn u v) : ∀ {w : List Int}, Kn v w → Kn u w
  | _, .refl _ => h
  | _, .fwd h' s => .fwd (h.trans h') s
  | _, .bwd h' s => .bwd (h.trans h') s
theorem KStep.ctx {v w : List Int} (s : KStep v w) (a b : List Int) : KStep (a ++ v ++ b) (a ++ w ++ b) := by
  cases s with
  | a u v x y z h1 h2 =>
    have := KStep.a (a ++ u) (v ++ b) x y z h1 h2
    simpa using this
  | b u v x y z h1 h2 =>
    have := KStep.b (a ++ u) (v ++ b) x y z h1 h2
    simpa using this
theorem Kn.ctx {v w : List Int} (h : Kn v w) (a b : List Int) : Kn (a ++ v ++ b) (a ++ w ++ b) := by
  induction h with
  | refl => exact .refl _
  | fwd _ s ih => exact .fwd ih (s.ctx a b)
  | bwd _ s ih => exact .bwd ih (s.ctx a b)
theorem KStep.perm {v w : List Int} (s : KStep v w) : v.Perm w := by
  cases s with
  | a u v x y z h1 h2 => exact List.Perm.append_left u (List.Perm.cons _ (List.Perm.swap _ _ _))
  | b u v x y z h1 h2 => exact List.Perm.append_left u (List.Perm.swap _ _ _)
theorem cnt_perm {f : Int → Nat} {v w : List Int} (h : v.Perm w) : cntW f v = cntW f w := (h.filter _).length_eq
/-- two colours exchanged -/
def swc (c d n : Nat) : Nat := if n = c then d else if n = d then c else n
theorem swc_zero {c d n : Nat} (hc : c ≠ 0) (hd : d ≠ 0) : swc c d n = 0 ↔ n = 0 := by unfold swc; split <;> (try split) <;> omega
theorem swc_inj {c d m n : Nat} (h : swc c d m = swc c d n) : m = n := by unfold swc at h; split at h <;> split at h <;> (try split at h) <;> (try split at h) <;> omega
theorem swc_le {c d n k : Nat} (hc : c ≤ k) (hd : d ≤ k) (hn : n ≤ k) : swc c d n ≤ k := by unfold swc; split <;> (try split) <;> omega
theorem cnt_congr {f g : Int → Nat} {w : List Int} (h : ∀ p ∈ w, (f p = 0 ↔ g p = 0)) : cntW f w = cntW g w := by
  unfold cntW
  congr 1
  apply List.filter_congr
  intro p hp
  have := h p hp
  by_cases e : g p = 0 <;> simp [e, this]
/-- a colouring that need not change -/
theorem good_swap {R : Int → Int → Prop} {f : Int → Nat} {u v : List Int} {x z : Int} (h : GoodW R f (u ++ (x :: z :: v))) (hn : ¬ (f x = f z ∧ f x ≠ 0)) : GoodW R f (u ++ (z :: x :: v)) := by
  unfold GoodW at *
  rw [List.pairwise_append, List.pairwise_cons, List.pairwise_cons] at h ⊢
  obtain ⟨h1, ⟨h2, h3, h4⟩, h5⟩ := h
  refine ⟨h1, ⟨fun q hq => ?_, fun q hq => h2 q (List.mem_cons_of_mem _ hq), h4⟩, fun p hp q hq => h5 p hp q ?_⟩
  · rcases List.mem_cons.mp hq with rfl | hq
    · exact fun e1 e2 => absurd ⟨e1.symm, by omega⟩ hn
    · exact h3 q hq
  · simp only [List.mem_cons] at hq ⊢
    rcases hq with h | h | h
    · exact .inr (.inl h)
    · exact .inl h
    · exact .inr (.inr h)

end My
namespace My
open PySem PySem.Spec PyProof.Rows L2 TL
open PyData (strOk)
/-! ### Knuth's steps keep what k classes can have -/
theorem swc_c {c d n : Nat} (h : c ≠ d) : swc c d n = c ↔ n = d := by unfold swc; split <;> (try split) <;> omega
theorem swc_d {c d n : Nat} (h : c ≠ d) : swc c d n = d ↔ n = c := by unfold swc; split <;> (try split) <;> omega
theorem swc_o {c d n m : Nat} (h1 : m ≠ c) (h2 : m ≠ d) : swc c d n = m ↔ n = m := by unfold swc; split <;> (try split) <;> omega
theorem ka_fwd {k n : Nat} {u v : List Int} {x y z : Int} (hxy : x < y) (hyz : y < z) (nd : (u ++ (y :: x :: z :: v)).Nodup) (h : Can (· < ·) k (u ++ (y :: x :: z :: v)) n) : Can (· < ·) k (u ++ (y :: z :: x :: v)) n := by
  obtain ⟨f, hg, hk, hc⟩ := h
  have st := KStep.a u v x y z hxy hyz
  by_cases hcc : f x = f z ∧ f x ≠ 0
  · obtain ⟨e1, e2⟩ := hcc
    have nd' := nd
    rw [List.nodup_append, List.nodup_cons, List.nodup_cons, List.nodup_cons] at nd'
    obtain ⟨_, ⟨ny, nx, nz, _⟩, dj⟩ := nd'
    have nu : ∀ p ∈ u, p ≠ y ∧ p ≠ x ∧ p ≠ z ∧ p ∉ v := fun p hp => ⟨dj p hp y (by simp), dj p hp x (by simp), dj p hp z (by simp), fun hv => dj p hp p (by simp [hv]) rfl⟩
    have nv : ∀ q ∈ v, q ≠ y ∧ q ≠ x ∧ q ≠ z := fun q hq => ⟨fun e => ny (by rw [← e]; simp [hq]), fun e => nx (by rw [← e]; simp [hq]), fun e => nz (by rw [← e]; exact hq)⟩
    have hg' := hg
    unfold GoodW at hg'
    rw [List.pairwise_append, List.pairwise_cons, List.pairwise_cons, List.pairwise_cons] at hg'
    obtain ⟨gu, ⟨gy, gx, gz, gv⟩, gm⟩ := hg'
    have gyv : ∀ q ∈ v, f y = f q → f y ≠ 0 → y < q := fun q hq => gy q (by simp [hq])
    have gxv : ∀ q ∈ v, f x = f q → f x ≠ 0 → x < q := fun q hq => gx q (by simp [hq])
    have gyx := gy x (by simp)
    have guy : ∀ p ∈ u, f p = f y → f p ≠ 0 → p < y := fun p hp => gm p hp y (by simp)
    have gux : ∀ p ∈ u, f p = f x → f p ≠ 0 → p < x := fun p hp => gm p hp x (by simp)
    have guz : ∀ p ∈ u, f p = f z → f p ≠ 0 → p < z := fun p hp => gm p hp z (by simp)
    have guv : ∀ p ∈ u, ∀ q ∈ v, f p = f q → f p ≠ 0 → p < q := fun p hp q hq => gm p hp q (by simp [hq])
    have hyx : f y ≠ f x := fun e => by have := gyx e (by omega); omega
    have kx := hk x (by simp)
    have ky := hk y (by simp)
    by_cases hy0 : f y = 0
    · -- y takes the place of x
      let g : Int → Nat := fun p => if p = y then f x else if p = x then 0 else f p
      have g_y : g y = f x := if_pos rfl
      have g_x : g x = 0 := by show (if x = y then f x else if x = x then 0 else f x) = 0; rw [if_neg (by omega), if_pos rfl]
      have g_z : g z = f z := by show (if z = y then f x else if z = x then 0 else f z) = f z; rw [if_neg (by omega), if_neg (by omega)]
      have g_o : ∀ p, p ≠ y → p ≠ x → g p = f p := fun p h1 h2 => by show (if p = y then f x else if p = x then 0 else f p) = f p; rw [if_neg h1, if_neg h2]
      have g_u : ∀ p ∈ u, g p = f p := fun p hp => g_o p (nu p hp).1 (nu p hp).2.1
      have g_v : ∀ q ∈ v, g q = f q := fun q hq => g_o q (nv q hq).1 (nv q hq).2.1
      refine ⟨g, ?_, fun p hp => ?_, ?_⟩
      · unfold GoodW
        rw [List.pairwise_append, List.pairwise_cons, List.pairwise_cons, List.pairwise_cons]
        refine ⟨gu.imp_of_mem fun {a b} ha hb h => by rw [g_u a ha, g_u b hb]; exact h, ⟨fun q hq => ?_, fun q hq => ?_, fun q hq => ?_, gv.imp_of_mem fun {a b} ha hb h => by rw [g_v a ha, g_v b hb]; exact h⟩, fun p hp q hq => ?_⟩
        · rw [g_y]
          simp only [List.mem_cons] at hq
          rcases hq with rfl | rfl | hq
          · intro _ _; exact hyz
          · rw [g_x]; intro e _; omega
          · rw [g_v q hq]; intro e h0; have := gz q hq (by omega) (by omega); omega
        · rw [g_z]
          simp only [List.mem_cons] at hq
          rcases hq with rfl | hq
          · rw [g_x]; intro e _; omega
          · rw [g_v q hq]; exact gz q hq
        · rw [g_x]; intro _ h0; exact absurd rfl h0
        · rw [g_u p hp]
          simp only [List.mem_cons] at hq
          rcases hq with rfl | rfl | rfl | hq
          · rw [g_y]; intro e h0; have := gux p hp e h0; omega
          · rw [g_z]; exact guz p hp
          · rw [g_x]; intro e h0; exact absurd e h0
          · rw [g_v q hq]; exact guv p hp q hq
      · show (if p = y then f x else if p = x then 0 else f p) ≤ k
        split
        · exact kx
        · split
          · omega
          · exact hk p (st.perm.mem_iff.mpr hp)
      · rw [← hc]
        unfold cntW
        have cu : ∀ (l : List Int), (∀ p ∈ l, g p = f p) → (l.filter fun p => decide (g p ≠ 0)).length = (l.filter fun p => decide (f p ≠ 0)).length := fun l hl => by
          congr 1
          apply List.filter_congr
          intro p hp
          rw [hl p hp]
        rw [List.filter_append, List.filter_append, List.length_append, List.length_append, cu u g_u]
        congr 1
        rw [List.filter_cons, List.filter_cons, List.filter_cons, List.filter_cons, List.filter_cons, List.filter_cons, g_y, g_x, g_z, hy0]
        have z0 : f z ≠ 0 := by omega
        simp only [ne_eq, e2, z0, not_false_eq_true, decide_true, if_true, not_true_eq_false, decide_false, Bool.false_eq_true, if_false, List.length_cons, cu v g_v]
    · -- tails exchanged
      have hcd : f x ≠ f y := fun e => hyx e.symm
      let g : Int → Nat := fun p => if p = z then f y else if p ∈ v then swc (f x) (f y) (f p) else f p
      have g_z : g z = f y := if_pos rfl
      have g_v : ∀ q ∈ v, g q = swc (f x) (f y) (f q) := fun q hq => by show (if q = z then f y else if q ∈ v then swc (f x) (f y) (f q) else f q) = _; rw [if_neg (nv q hq).2.2, if_pos hq]
      have g_o : ∀ p, p ≠ z → p ∉ v → g p = f p := fun p h1 h2 => by show (if p = z then f y else if p ∈ v then swc (f x) (f y) (f p) else f p) = f p; rw [if_neg h1, if_neg h2]
      have g_u : ∀ p ∈ u, g p = f p := fun p hp => g_o p (nu p hp).2.2.1 (nu p hp).2.2.2
      have g_x : g x = f x := g_o x (by omega) fun h => (nv x h).2.1 rfl
      have g_y : g y = f y := g_o y (by omega) fun h => (nv y h).1 rfl
      have vz := fun n => swc_zero (c := f x) (d := f y) (n := n) e2 hy0
      refine ⟨g, ?_, fun p hp => ?_, ?_⟩
      · unfold GoodW
        rw [List.pairwise_append, List.pairwise_cons, List.pairwise_cons, List.pairwise_cons]
        refine ⟨gu.imp_of_mem fun {a b} ha hb h => by rw [g_u a ha, g_u b hb]; exact h, ⟨fun q hq => ?_, fun q hq => ?_, fun q hq => ?_, gv.imp_of_mem fun {a b} ha hb h => by
          rw [g_v a ha, g_v b hb]
          intro e h0
          exact h (swc_inj e) fun h1 => h0 ((vz _).mpr h1)⟩, fun p hp q hq => ?_⟩
        · rw [g_y]
          simp only [List.mem_cons] at hq
          rcases hq with rfl | rfl | hq
          · intro _ _; exact hyz
          · rw [g_x]; intro e _; exact absurd e hyx
          · rw [g_v q hq]
            intro e h0
            have := (swc_d hcd).mp e.symm
            have := gz q hq (by omega) (by omega)
            omega
        · rw [g_z]
          simp only [List.mem_cons] at hq
          rcases hq with rfl | hq
          · rw [g_x]; intro e _; exact absurd e hyx
          · rw [g_v q hq]
            intro e h0
            have := (swc_d hcd).mp e.symm
            exact gz q hq (by omega) (by omega)
        · rw [g_x, g_v q hq]
          intro e h0
          have := (swc_c hcd).mp e.symm
          have := gyv q hq (by omega) hy0
          omega
        · rw [g_u p hp]
          simp only [List.mem_cons] at hq
          rcases hq with rfl | rfl | rfl | hq
          · rw [g_y]; exact guy p hp
          · rw [g_z]; intro e h0; have := guy p hp e h0; omega
          · rw [g_x]; exact gux p hp
          · rw [g_v q hq]
            intro e h0
            by_cases c1 : f p = f x
            · have := (swc_c hcd).mp (e.symm.trans c1)
              have a1 := gux p hp c1 h0
              have a2 := gyv q hq (by omega) hy0
              omega
            · by_cases c2 : f p = f y
              · have := (swc_d hcd).mp (e.symm.trans c2)
                have a1 := guy p hp c2 h0
                have a2 := gz q hq (by omega) (by omega)
                omega
              · exact guv p hp q hq ((swc_o c1 c2).mp e.symm).symm h0
      · show (if p = z then f y else if p ∈ v then swc (f x) (f y) (f p) else f p) ≤ k
        have hp' := hk p (st.perm.mem_iff.mpr hp)
        split
        · exact ky
        · split
          · exact swc_le kx ky hp'
          · exact hp'
      · rw [← hc, ← cnt_perm (f := g) st.perm]
        refine cnt_congr fun p hp => ?_
        by_cases hz : p = z
        · rw [hz, g_z]; omega
        · by_cases hv : p ∈ v
          · rw [g_v p hv]; exact vz _
          · rw [g_o p hz hv]
  · refine ⟨f, ?_, fun p hp => hk p (st.perm.mem_iff.mpr hp), by rw [← cnt_perm st.perm]; exact hc⟩
    have h2 : GoodW (· < ·) f ((u ++ [y]) ++ (x :: z :: v)) := by simpa using hg
    have := good_swap h2 hcc
    simpa using this
theorem ka_bwd {k n : Nat} {u v : List Int} {x y z : Int} (hxy : x < y) (hyz : y < z) (h : Can (· < ·) k (u ++ (y :: z :: x :: v)) n) : Can (· < ·) k (u ++ (y :: x :: z :: v)) n := by
  obtain ⟨f, hg, hk, hc⟩ := h
  have st := KStep.a u v x y z hxy hyz
  refine ⟨f, ?_, fun p hp => hk p (st.perm.mem_iff.mp hp), by rw [cnt_perm st.perm]; exact hc⟩
  have h2 : GoodW (· < ·) f ((u ++ [y]) ++ (z :: x :: v)) := by simpa using hg
  have hn : ¬ (f z = f x ∧ f z ≠ 0) := fun ⟨e1, e2⟩ => by
    unfold GoodW at h2
    rw [List.pairwise_append, List.pairwise_cons] at h2
    have := h2.2.1.1 x (by simp) e1 e2
    omega
  have := good_swap h2 hn
  simpa using this
theorem kb_bwd {k n : Nat} {u v : List Int} {x y z : Int} (hxy : x < y) (hyz : y < z) (h : Can (· < ·) k (u ++ (z :: x :: y :: v)) n) : Can (· < ·) k (u ++ (x :: z :: y :: v)) n := by
  obtain ⟨f, hg, hk, hc⟩ := h
  have st := KStep.b u v x y z hxy hyz
  refine ⟨f, ?_, fun p hp => hk p (st.perm.mem_iff.mp hp), by rw [cnt_perm st.perm]; exact hc⟩
  have hn : ¬ (f z = f x ∧ f z ≠ 0) := fun ⟨e1, e2⟩ => by
    unfold GoodW at hg
    rw [List.pairwise_append, List.pairwise_cons] at hg
    have := hg.2.1.1 x (by simp) e1 e2
    omega
  exact good_swap hg hn
theorem kb_fwd {k n : Nat} {u v : List Int} {x y z : Int} (hxy : x < y) (hyz : y < z) (nd : (u ++ (x :: z :: y :: v)).Nodup) (h : Can (· < ·) k (u ++ (x :: z :: y :: v)) n) : Can (· < ·) k (u ++ (z :: x :: y :: v)) n := by
  obtain ⟨f, hg, hk, hc⟩ := h
  have st := KStep.b u v x y z hxy hyz
  by_cases hcc : f x = f z ∧ f x ≠ 0
  · obtain ⟨e1, e2⟩ := hcc
    have nd' := nd
    rw [List.nodup_append, List.nodup_cons, List.nodup_cons, List.nodup_cons] at nd'
    obtain ⟨_, ⟨nx, nz, ny, _⟩, dj⟩ := nd'
    have nu : ∀ p ∈ u, p ≠ y ∧ p ≠ x ∧ p ≠ z ∧ p ∉ v := fun p hp => ⟨dj p hp y (by simp), dj p hp x (by simp), dj p hp z (by simp), fun hv => dj p hp p (by simp [hv]) rfl⟩
    have nv : ∀ q ∈ v, q ≠ y ∧ q ≠ x ∧ q ≠ z := fun q hq => ⟨fun e => ny (by rw [← e]; exact hq), fun e => nx (by rw [← e]; simp [hq]), fun e => nz (by rw [← e]; simp [hq])⟩
    have hg' := hg
    unfold GoodW at hg'
    rw [List.pairwise_append, List.pairwise_cons, List.pairwise_cons, List.pairwise_cons] at hg'
    obtain ⟨gu, ⟨gx, gz, gy, gv⟩, gm⟩ := hg'
    have gxv : ∀ q ∈ v, f x = f q → f x ≠ 0 → x < q := fun q hq => gx q (by simp [hq])
    have gzv : ∀ q ∈ v, f z = f q → f z ≠ 0 → z < q := fun q hq => gz q (by simp [hq])
    have gzy := gz y (by simp)
    have guy : ∀ p ∈ u, f p = f y → f p ≠ 0 → p < y := fun p hp => gm p hp y (by simp)
    have gux : ∀ p ∈ u, f p = f x → f p ≠ 0 → p < x := fun p hp => gm p hp x (by simp)
    have guv : ∀ p ∈ u, ∀ q ∈ v, f p = f q → f p ≠ 0 → p < q := fun p hp q hq => gm p hp q (by simp [hq])
    have hyx : f x ≠ f y := fun e => by have := gzy (by omega) (by omega); omega
    have kx := hk x (by simp)
    have ky := hk y (by simp)
    by_cases hy0 : f y = 0
    · let g : Int → Nat := fun p => if p = y then f x else if p = z then 0 else f p
      have g_y : g y = f x := if_pos rfl
      have g_z : g z = 0 := by show (if z = y then f x else if z = z then 0 else f z) = 0; rw [if_neg (by omega), if_pos rfl]
      have g_x : g x = f x := by show (if x = y then f x else if x = z then 0 else f x) = f x; rw [if_neg (by omega), if_neg (by omega)]
      have g_o : ∀ p, p ≠ y → p ≠ z → g p = f p := fun p h1 h2 => by show (if p = y then f x else if p = z then 0 else f p) = f p; rw [if_neg h1, if_neg h2]
      have g_u : ∀ p ∈ u, g p = f p := fun p hp => g_o p (nu p hp).1 (nu p hp).2.2.1
      have g_v : ∀ q ∈ v, g q = f q := fun q hq => g_o q (nv q hq).1 (nv q hq).2.2
      refine ⟨g, ?_, fun p hp => ?_, ?_⟩
      · unfold GoodW
        rw [List.pairwise_append, List.pairwise_cons, List.pairwise_cons, List.pairwise_cons]
        refine ⟨gu.imp_of_mem fun {a b} ha hb h => by rw [g_u a ha, g_u b hb]; exact h, ⟨fun q hq => ?_, fun q hq => ?_, fun q hq => ?_, gv.imp_of_mem fun {a b} ha hb h => by rw [g_v a ha, g_v b hb]; exact h⟩, fun p hp q hq => ?_⟩
        · rw [g_z]; intro _ h0; exact absurd rfl h0
        · rw [g_x]
          simp only [List.mem_cons] at hq
          rcases hq with rfl | hq
          · intro _ _; exact hxy
          · rw [g_v q hq]; exact gxv q hq
        · rw [g_y, g_v q hq]; intro e h0; have := gzv q hq (by omega) (by omega); omega
        · rw [g_u p hp]
          simp only [List.mem_cons] at hq
          rcases hq with rfl | rfl | rfl | hq
          · rw [g_z]; intro e h0; exact absurd e h0
          · rw [g_x]; exact gux p hp
          · rw [g_y]; intro e h0; have := gux p hp e h0; omega
          · rw [g_v q hq]; exact guv p hp q hq
      · show (if p = y then f x else if p = z then 0 else f p) ≤ k
        split
        · exact kx
        · split
          · omega
          · exact hk p (st.perm.mem_iff.mpr hp)
      · rw [← hc]
        unfold cntW
        have cu : ∀ (l : List Int), (∀ p ∈ l, g p = f p) → (l.filter fun p => decide (g p ≠ 0)).length = (l.filter fun p => decide (f p ≠ 0)).length := fun l hl => by
          congr 1
          apply List.filter_congr
          intro p hp
          rw [hl p hp]
        rw [List.filter_append, List.filter_append, List.length_append, List.length_append, cu u g_u]
        congr 1
        rw [List.filter_cons, List.filter_cons, List.filter_cons, List.filter_cons, List.filter_cons, List.filter_cons, g_y, g_x, g_z, hy0]
        have z0 : f z ≠ 0 := by omega
        simp only [ne_eq, e2, z0, not_false_eq_true, decide_true, if_true, not_true_eq_false, decide_false, Bool.false_eq_true, if_false, List.length_cons, cu v g_v]
    · have hcd : f x ≠ f y := hyx
      let g : Int → Nat := fun p => if p = y then f x else if p = z then f y else if p ∈ v then swc (f x) (f y) (f p) else f p
      have g_y : g y = f x := if_pos rfl
      have g_z : g z = f y := by show (if z = y then f x else if z = z then f y else _) = _; rw [if_neg (by omega), if_pos rfl]
      have g_v : ∀ q ∈ v, g q = swc (f x) (f y) (f q) := fun q hq => by show (if q = y then f x else if q = z then f y else if q ∈ v then swc (f x) (f y) (f q) else f q) = _; rw [if_neg (nv q hq).1, if_neg (nv q hq).2.2, if_pos hq]
      have g_o : ∀ p, p ≠ y → p ≠ z → p ∉ v → g p = f p := fun p h1 h2 h3 => by show (if p = y then f x else if p = z then f y else if p ∈ v then swc (f x) (f y) (f p) else f p) = f p; rw [if_neg h1, if_neg h2, if_neg h3]
      have g_u : ∀ p ∈ u, g p = f p := fun p hp => g_o p (nu p hp).1 (nu p hp).2.2.1 (nu p hp).2.2.2
      have g_x : g x = f x := g_o x (by omega) (by omega) fun h => (nv x h).2.1 rfl
      have vz := fun n => swc_zero (c := f x) (d := f y) (n := n) e2 hy0
      refine ⟨g, ?_, fun p hp => ?_, ?_⟩
      · unfold GoodW
        rw [List.pairwise_append, List.pairwise_cons, List.pairwise_cons, List.pairwise_cons]
        refine ⟨gu.imp_of_mem fun {a b} ha hb h => by rw [g_u a ha, g_u b hb]; exact h, ⟨fun q hq => ?_, fun q hq => ?_, fun q hq => ?_, gv.imp_of_mem fun {a b} ha hb h => by
          rw [g_v a ha, g_v b hb]
          intro e h0
          exact h (swc_inj e) fun h1 => h0 ((vz _).mpr h1)⟩, fun p hp q hq => ?_⟩
        · rw [g_z]
          simp only [List.mem_cons] at hq
          rcases hq with rfl | rfl | hq
          · rw [g_x]; intro e _; exact absurd e.symm hcd
          · rw [g_y]; intro e _; exact absurd e.symm hcd
          · rw [g_v q hq]
            intro e h0
            have := (swc_d hcd).mp e.symm
            exact gzv q hq (by omega) (by omega)
        · rw [g_x]
          simp only [List.mem_cons] at hq
          rcases hq with rfl | hq
          · intro _ _; exact hxy
          · rw [g_v q hq]
            intro e h0
            have := (swc_c hcd).mp e.symm
            have := gy q hq (by omega) hy0
            omega
        · rw [g_y, g_v q hq]
          intro e h0
          have := (swc_c hcd).mp e.symm
          exact gy q hq (by omega) hy0
        · rw [g_u p hp]
          simp only [List.mem_cons] at hq
          rcases hq with rfl | rfl | rfl | hq
          · rw [g_z]; intro e h0; have := guy p hp e h0; omega
          · rw [g_x]; exact gux p hp
          · rw [g_y]; intro e h0; have := gux p hp e h0; omega
          · rw [g_v q hq]
            intro e h0
            by_cases c1 : f p = f x
            · have := (swc_c hcd).mp (e.symm.trans c1)
              have a1 := gux p hp c1 h0
              have a2 := gy q hq (by omega) hy0
              omega
            · by_cases c2 : f p = f y
              · have := (swc_d hcd).mp (e.symm.trans c2)
                have a1 := guy p hp c2 h0
                have a2 := gzv q hq (by omega) (by omega)
                omega
              · exact guv p hp q hq ((swc_o c1 c2).mp e.symm).symm h0
      · show (if p = y then f x else if p = z then f y else if p ∈ v then swc (f x) (f y) (f p) else f p) ≤ k
        have hp' := hk p (st.perm.mem_iff.mpr hp)
        split
        · exact kx
        · split
          · exact ky
          · split
            · exact swc_le kx ky hp'
            · exact hp'
      · rw [← hc, ← cnt_perm (f := g) st.perm]
        refine cnt_congr fun p hp => ?_
        by_cases hy : p = y
        · rw [hy, g_y]; omega
        · by_cases hz : p = z
          · rw [hz, g_z]; omega
          · by_cases hv : p ∈ v
            · rw [g_v p hv]; exact vz _
            · rw [g_o p hy hz hv]
  · refine ⟨f, ?_, fun p hp => hk p (st.perm.mem_iff.mpr hp), by rw [← cnt_perm st.perm]; exact hc⟩
    exact good_swap hg hcc
theorem kstep_inc {k n : Nat} {v w : List Int} (s : KStep v w) (nd : v.Nodup) : Can (· < ·) k v n ↔ Can (· < ·) k w n := by
  cases s with
  | a u v x y z h1 h2 => exact ⟨ka_fwd h1 h2 nd, ka_bwd h1 h2⟩
  | b u v x y z h1 h2 => exact ⟨kb_fwd h1 h2 nd, kb_bwd h1 h2⟩
/-! .. and down, by turning the word -/
theorem can_rev {R : Int → Int → Prop} {k n : Nat} {w : List Int} (h : Can R k w n) : Can (fun a b => R b a) k w.reverse n := by
  obtain ⟨f, hg, hk, hc⟩ := h
  refine ⟨f, ?_, fun p hp => hk p (List.mem_reverse.mp hp), by rw [← hc]; exact cnt_perm (List.reverse_perm w)⟩
  unfold GoodW at *
  rw [List.pairwise_reverse]
  exact hg.imp fun {a b} h e h0 => h e.symm (by omega)
theorem nd_rev {w : List Int} (h : w.Nodup) : w.reverse.Nodup := (List.reverse_perm w).symm.nodup h
theorem kstep_rev {v w : List Int} (s : KStep v w) : KStep w.reverse v.reverse ∨ KStep v.reverse w.reverse := by
  cases s with
  | a u v x y z h1 h2 =>
    have := KStep.b v.reverse u.reverse x y z h1 h2
    left
    simpa using this
  | b u v x y z h1 h2 =>
    have := KStep.a v.reverse u.reverse x y z h1 h2
    left
    simpa using this
theorem kstep_dec {k n : Nat} {v w : List Int} (s : KStep v w) (nd : v.Nodup) : Can (· > ·) k v n ↔ Can (· > ·) k w n := by
  have r1 : ∀ {l : List Int}, Can (· > ·) k l n ↔ Can (· < ·) k l.reverse n := fun {l} => ⟨fun h => can_rev h, fun h => by have := can_rev h; rw [List.reverse_reverse] at this; exact this⟩
  rw [r1, r1]
  rcases kstep_rev s with s' | s'
  · exact (kstep_inc s' (nd_rev (s.perm.nodup_iff.mp nd))).symm
  · exact kstep_inc s' (nd_rev nd)
theorem kn_perm {v w : List Int} (h : Kn v w) : v.Perm w := by
  induction h with
  | refl => exact .refl _
  | fwd _ s ih => exact ih.trans s.perm
  | bwd _ s ih => exact ih.trans s.perm.symm
theorem kn_inc {k n : Nat} {v w : List Int} (h : Kn v w) (nd : v.Nodup) : Can (· < ·) k v n ↔ Can (· < ·) k w n := by
  induction h with
  | refl => exact Iff.rfl
  | fwd h' s ih => exact ih.trans (kstep_inc s ((kn_perm h').nodup_iff.mp nd))
  | bwd h' s ih => exact ih.trans (kstep_inc s (s.perm.nodup_iff.mpr ((kn_perm h').nodup_iff.mp nd))).symm
theorem kn_dec {k n : Nat} {v w : List Int} (h : Kn v w) (nd : v.Nodup) : Can (· > ·) k v n ↔ Can (· > ·) k w n := by
  induction h with
  | refl => exact Iff.rfl
  | fwd h' s ih => exact ih.trans (kstep_dec s ((kn_perm h').nodup_iff.mp nd))
  | bwd h' s ih => exact ih.trans (kstep_dec s (s.perm.nodup_iff.mpr ((kn_perm h').nodup_iff.mp nd))).symm

end My
namespace My
open PySem PySem.Spec PyProof.Rows L2 TL
open PyData (strOk)
/-! ### insertion goes by Knuth's steps -/
def rdW (t : List (List Int)) : List Int := t.reverse.flatten
theorem rdW_cons (r : List Int) (t : List (List Int)) : rdW (r :: t) = rdW t ++ r := by unfold rdW; simp
theorem rdW_perm (t : List (List Int)) : (rdW t).Perm t.flatten := by
  unfold rdW
  exact (List.reverse_perm t).flatten
theorem k_right {n : Int} : ∀ (B u v : List Int) (z : Int), n < z → (z :: B).Pairwise (· < ·) → Kn (u ++ z :: (B ++ n :: v)) (u ++ z :: n :: (B ++ v))
  | [], u, v, z, _, _ => .refl _
  | b :: B, u, v, z, h, hs => by
    have hs' := List.pairwise_cons.mp hs
    have hzb : z < b := hs'.1 b (by simp)
    have ih := k_right (n := n) B (u ++ [z]) v b (by omega) hs'.2
    have ih : Kn (u ++ z :: (b :: B ++ n :: v)) (u ++ z :: b :: n :: (B ++ v)) := by simpa using ih
    exact .bwd ih (KStep.a u (B ++ v) n z b h hzb)
theorem k_left {z : Int} : ∀ (A u v : List Int) (n : Int), (A ++ [n]).Pairwise (· < ·) → (∀ a ∈ A ++ [n], a < z) → Kn (u ++ (A ++ z :: n :: v)) (u ++ z :: (A ++ n :: v))
  | [], u, v, n, _, _ => .refl _
  | a :: A, u, v, n, hs, hz => by
    have hs' := List.pairwise_cons.mp (show (a :: (A ++ [n])).Pairwise (· < ·) from hs)
    have ih := k_left (z := z) A (u ++ [a]) v n hs'.2 fun x hx => hz x (List.mem_cons_of_mem _ hx)
    have ih : Kn (u ++ (a :: A ++ z :: n :: v)) ((u ++ [a]) ++ z :: (A ++ n :: v)) := by simpa using ih
    cases A with
    | nil =>
      have h1 : a < n := hs'.1 n (by simp)
      have h2 : n < z := hz n (by simp)
      exact .fwd (by simpa using ih) (by simpa using KStep.b u v a n z h1 h2)
    | cons c A =>
      have h1 : a < c := hs'.1 c (by simp)
      have h2 : c < z := hz c (by simp)
      exact .fwd (by simpa using ih) (by simpa using KStep.b u (A ++ n :: v) a c z h1 h2)
theorem row_kn {row : List Int} {n m : Int} (hp : row.Pairwise (· < ·)) (hn : n ∉ row) (h : (placedN row n).2 = some m) : Kn (row ++ [n]) (m :: (placedN row n).1) := by
  rcases placed_spec hp n with ⟨_, e⟩ | ⟨p, z, hz, hnz, hle, _, e⟩
  · rw [e] at h; cases h
  · rw [e] at h ⊢
    have h : some z = some m := h
    obtain rfl : z = m := Option.some.inj h
    have hl := lt_of_get hz
    have es : row = row.take p ++ z :: row.drop (p + 1) := by
      have : row[p] = z := (List.getElem?_eq_some_iff.mp hz).2
      rw [← this, ← List.drop_eq_getElem_cons hl, List.take_append_drop]
    have eset : row.set p n = row.take p ++ n :: row.drop (p + 1) := (List.set_eq_take_append_cons_drop.trans (if_pos hl))
    show Kn (row ++ [n]) (z :: row.set p n)
    rw [eset]
    have hp2 := hp
    rw [es] at hp2
    generalize row.take p = A at *
    generalize row.drop (p + 1) = B at *
    rw [List.pairwise_append] at hp2
    obtain ⟨a1, a2, a3⟩ := hp2
    have la : ∀ a ∈ A, a < n := fun a ha => by
      have h1 := a3 a ha z (by simp)
      have h2 : a ∈ row := by rw [es]; simp [ha]
      have h3 : ¬ n < a := fun h => by have := hle a h2 h; omega
      have h4 : a ≠ n := fun e => hn (by rw [← e]; exact h2)
      omega
    have r := k_right B A [] z hnz a2
    have l := k_left A [] (B ++ []) n (List.pairwise_append.mpr ⟨a1, by simp, fun a ha b hb => by rw [List.mem_singleton.mp hb]; exact la a ha⟩) fun a ha => by
      rcases List.mem_append.mp ha with ha | ha
      · exact a3 a ha z (by simp)
      · rw [List.mem_singleton.mp ha]; exact hnz
    rw [es]
    have e1 : A ++ z :: B ++ [n] = A ++ z :: (B ++ n :: []) := by simp
    rw [e1]
    have := r.trans (by simpa using l)
    simpa using this
theorem ins_kn : ∀ (t : List (List Int)) (n : Int), RowsInc t → t.flatten.Nodup → n ∉ t.flatten → Kn (rdW t ++ [n]) (rdW (insN t n).1)
  | [], n, _, _, _ => .refl _
  | row :: rest, n, hi, nd, hn => by
    have hr := hi row List.mem_cons_self
    rw [List.flatten_cons, List.nodup_append] at nd
    rw [List.flatten_cons, List.mem_append, not_or] at hn
    cases h : (placedN row n).2 with
    | none =>
      have e : (insN (row :: rest) n).1 = (placedN row n).1 :: rest := by simp only [insN, h]
      have e2 : (placedN row n).1 = row ++ [n] := by
        rcases placed_spec hr.2 n with ⟨_, e⟩ | ⟨p, z, _, _, _, _, e⟩
        · rw [e]
        · rw [e] at h; cases h
      rw [e, rdW_cons, rdW_cons, e2, List.append_assoc]
      exact .refl _
    | some m =>
      have e : (insN (row :: rest) n).1 = (placedN row n).1 :: (insN rest m).1 := by simp only [insN, h]
      have hm : m ∈ row := by
        rcases placed_spec hr.2 n with ⟨_, e⟩ | ⟨p, z, hz, _, _, _, e⟩
        · rw [e] at h; cases h
        · rw [e] at h
          cases h
          exact List.mem_of_getElem? hz
      have hm2 : m ∉ rest.flatten := fun h => nd.2.2 m hm m h rfl
      have ih := ins_kn rest m hi.tail nd.2.1 hm2
      rw [e, rdW_cons, rdW_cons]
      have k1 := (row_kn hr.2 hn.1 h).ctx (rdW rest) []
      have k2 := ih.ctx [] (placedN row n).1
      have := k1.trans (by simpa using k2)
      simpa using this
theorem tab_kn {qs : List (Int × Int)} (ok : PtsOk qs) : ∀ i, Kn ((qs.take i).map (·.2)) (rdW ((qs.take i).foldl tabStep ([], [])).1)
  | 0 => .refl _
  | i + 1 => by
    have ih := tab_kn ok i
    by_cases hi : i < qs.length
    · have e : qs.take (i + 1) = qs.take i ++ [qs[i]] := by rw [List.take_add_one, List.getElem?_eq_getElem hi]; rfl
      have ti := ti_at ok i
      have ok' := ok.take (i + 1)
      rw [e] at ok' ⊢
      rw [List.foldl_append, List.map_append]
      generalize (qs.take i).foldl tabStep ([], []) = st at ih ti
      have nd : st.1.flatten.Nodup := by
        have h1 : ((qs.take i).map (·.2)).Nodup := by
          have := ok'.ys
          rw [List.map_append, List.nodup_append] at this
          exact this.1
        exact (ti.pf.nodup_iff).mpr h1
      have hn : qs[i].2 ∉ st.1.flatten := fun h => by
        have h1 := (ti.pf.mem_iff).mp h
        have := ok'.ys
        rw [List.map_append, List.nodup_append] at this
        exact this.2.2 _ h1 _ (by simp) rfl
      have k := ins_kn st.1 qs[i].2 ti.pr nd hn
      have k2 := ih.ctx [] [qs[i].2]
      have := (show Kn ([] ++ (qs.take i).map (·.2) ++ [qs[i].2]) ([] ++ rdW st.1 ++ [qs[i].2]) from k2).trans (by simpa using k)
      show Kn _ (rdW (insN st.1 qs[i].2).1)
      simpa using this
    · rw [List.take_of_length_le (by omega)] at ih ⊢
      exact ih

end My
namespace My
open PySem PySem.Spec PyProof.Rows L2 TL
open PyData (strOk)
/-! ### what k classes of a table's word have -/
theorem adj_trans {a b c : List Int} (h1 : AdjR a b) (h2 : AdjR b c) : AdjR a c := ⟨Nat.le_trans h2.1 h1.1, fun i hi => Int.lt_trans (h1.2 i (by have := h2.1; omega)) (h2.2 i hi)⟩
theorem tab_pair : ∀ {t : List (List Int)}, IsTab t → t.Pairwise AdjR
  | [], _ => .nil
  | [r], _ => by simp
  | r :: s :: t, h => by
    obtain ⟨h1, h2, h3⟩ := isTab_cons.mp h
    have ih := tab_pair h3
    have hs : AdjR r s := h2 (by simp)
    refine .cons (fun q hq => ?_) ih
    rcases List.mem_cons.mp hq with rfl | hq
    · exact hs
    · exact adj_trans hs ((List.pairwise_cons.mp ih).1 q hq)
def upS (ls : List Nat) (k : Nat) : Nat := (ls.take k).sum
def colL (ls : List Nat) (j : Nat) : Nat := (ls.filter fun l => decide (j < l)).length
def dnS (ls : List Nat) (k : Nat) : Nat := ((List.range k).map fun j => colL ls j).sum
/-! counting by columns -/
theorem sum_map_add {α : Type} (f g : α → Nat) : ∀ xs : List α, (xs.map fun x => f x + g x).sum = (xs.map f).sum + (xs.map g).sum
  | [] => rfl
  | x :: xs => by simp only [List.map_cons, List.sum_cons, sum_map_add f g xs]; omega
theorem range_lt (l : Nat) : ∀ k, ((List.range k).map fun j => if j < l then 1 else 0).sum = min k l
  | 0 => by simp
  | k + 1 => by
    rw [List.range_succ, List.map_append, List.sum_append, range_lt l k]
    simp only [List.map_cons, List.map_nil, List.sum_cons, List.sum_nil]
    split <;> omega
theorem colL_cons (l : Nat) (ls : List Nat) (j : Nat) : colL (l :: ls) j = (if j < l then 1 else 0) + colL ls j := by
  unfold colL
  rw [List.filter_cons]
  by_cases h : j < l <;> simp [h]
  omega
theorem dnS_eq : ∀ (ls : List Nat) (k : Nat), dnS ls k = (ls.map fun l => min k l).sum
  | [], k => by
    unfold dnS colL
    simp
    induction k with
    | zero => rfl
    | succ k ih => rw [List.range_succ, List.map_append, List.sum_append, ih]; rfl
  | l :: ls, k => by
    have ih := dnS_eq ls k
    have e : dnS (l :: ls) k = ((List.range k).map fun j => (if j < l then 1 else 0) + colL ls j).sum := by
      unfold dnS
      congr 1
      apply List.map_congr_left
      intro j _
      exact colL_cons l ls j
    rw [e, sum_map_add, range_lt]
    show _ + dnS ls k = _
    rw [ih, List.map_cons, List.sum_cons]
theorem colL_sum {ls : List Nat} {m : Nat} (h : ∀ l ∈ ls, l ≤ m) : ((List.range m).map fun j => colL ls j).sum = ls.sum := by
  have := dnS_eq ls m
  unfold dnS at this
  rw [this]
  congr 1
  conv => rhs; rw [← List.map_id ls]
  apply List.map_congr_left
  intro l hl
  exact Nat.min_eq_right (h l hl)
theorem take_filter {j : Nat} : ∀ {ls : List Nat} (k : Nat), ls.Pairwise (· ≥ ·) → colL (ls.take k) j = min k (colL ls j)
  | [], k, _ => by simp [colL]
  | l :: ls, 0, _ => by simp [colL]
  | l :: ls, k + 1, h => by
    have h' := List.pairwise_cons.mp h
    have ih := take_filter (j := j) (ls := ls) k h'.2
    rw [List.take_succ_cons, colL_cons, colL_cons, ih]
    by_cases hj : j < l
    · simp only [hj, if_true]; omega
    · have z : colL ls j = 0 := by
        unfold colL
        rw [List.filter_eq_nil_iff.mpr fun x hx => by have := h'.1 x hx; simp; omega]
        rfl
      simp only [hj, if_false, z]
      omega
theorem upS_eq {ls : List Nat} {m : Nat} (hd : ls.Pairwise (· ≥ ·)) (h : ∀ l ∈ ls, l ≤ m) (k : Nat) : upS ls k = ((List.range m).map fun j => min k (colL ls j)).sum := by
  unfold upS
  rw [← colL_sum (m := m) fun l hl => h l (List.mem_of_mem_take hl)]
  congr 1
  apply List.map_congr_left
  intro j _
  exact take_filter k hd
def colT (t : List (List Int)) (j : Nat) : List Int := t.filterMap fun r => r[j]?
theorem colT_len (t : List (List Int)) (j : Nat) : (colT t j).length = colL (t.map List.length) j := by
  induction t with
  | nil => rfl
  | cons r t ih =>
    unfold colT at *
    rw [List.map_cons, colL_cons, ← ih, List.filterMap_cons]
    by_cases h : j < r.length
    · rw [List.getElem?_eq_getElem h]; simp [h]; omega
    · rw [List.getElem?_eq_none (by omega)]; simp [h]
theorem row_cols (r : List Int) : ∀ m, ((List.range m).flatMap fun j => (r[j]?).toList) = r.take m
  | 0 => rfl
  | m + 1 => by
    rw [List.range_succ, List.flatMap_append, row_cols r m, List.take_add_one]
    simp
theorem flatMap_app {α β : Type} (f g : α → List β) : ∀ xs : List α, (xs.flatMap fun x => f x ++ g x).Perm (xs.flatMap f ++ xs.flatMap g)
  | [] => .refl _
  | x :: xs => by
    have ih := flatMap_app f g xs
    rw [List.flatMap_cons, List.flatMap_cons, List.flatMap_cons]
    have h1 := ih.append_left (f x ++ g x)
    refine h1.trans ?_
    simp only [List.append_assoc]
    refine List.Perm.append_left (f x) ?_
    rw [← List.append_assoc, ← List.append_assoc]
    exact List.perm_append_comm.append_right _
theorem cols_perm : ∀ (t : List (List Int)) (m : Nat), (∀ r ∈ t, r.length ≤ m) → t.flatten.Perm ((List.range m).flatMap fun j => colT t j)
  | [], m, _ => by
    have : ((List.range m).flatMap fun j => colT [] j) = [] := List.flatMap_eq_nil_iff.mpr fun j _ => rfl
    rw [this]
    exact .refl _
  | r :: t, m, h => by
    have ih := cols_perm t m fun q hq => h q (List.mem_cons_of_mem _ hq)
    have e : ((List.range m).flatMap fun j => colT (r :: t) j) = (List.range m).flatMap fun j => (r[j]?).toList ++ colT t j := by
      congr 1
      funext j
      unfold colT
      rw [List.filterMap_cons]
      cases r[j]? <;> rfl
    rw [e, List.flatten_cons]
    refine .trans ?_ (flatMap_app _ _ _).symm
    rw [row_cols r m, List.take_of_length_le (h r List.mem_cons_self)]
    exact ih.append_left r
theorem cnt_flatMap {α : Type} (f : Int → Nat) (g : α → List Int) : ∀ xs : List α, cntW f (xs.flatMap g) = (xs.map fun x => cntW f (g x)).sum
  | [] => rfl
  | x :: xs => by
    rw [List.flatMap_cons, List.map_cons, List.sum_cons, ← cnt_flatMap f g xs]
    unfold cntW
    rw [List.filter_append, List.length_append]
theorem sum_le {α : Type} {f g : α → Nat} : ∀ {xs : List α}, (∀ x ∈ xs, f x ≤ g x) → (xs.map f).sum ≤ (xs.map g).sum
  | [], _ => Nat.le_refl _
  | x :: xs, h => by
    rw [List.map_cons, List.map_cons, List.sum_cons, List.sum_cons]
    exact Nat.add_le_add (h x List.mem_cons_self) (sum_le fun y hy => h y (List.mem_cons_of_mem _ hy))
theorem nodup_le {α : Type} [DecidableEq α] : ∀ {l m : List α}, l.Nodup → (∀ x ∈ l, x ∈ m) → l.length ≤ m.length
  | [], _, _, _ => Nat.zero_le _
  | a :: r, m, h, s => by
    rw [List.nodup_cons] at h
    have ha := s a List.mem_cons_self
    have := nodup_le (l := r) (m := m.erase a) h.2 fun x hx => (List.mem_erase_of_ne (fun z => h.1 (by rw [← z]; exact hx))).mpr (s x (List.mem_cons_of_mem _ hx))
    rw [List.length_erase_of_mem ha] at this
    have := List.length_pos_of_mem ha
    simp only [List.length_cons]
    omega
/-- colours that differ are no more than there are -/
theorem cnt_diff {f : Int → Nat} {k : Nat} {l : List Int} (hk : ∀ p ∈ l, f p ≤ k) (hd : l.Pairwise fun p q => f p = f q → f p = 0) : cntW f l ≤ min k l.length := by
  have h1 : cntW f l ≤ l.length := List.length_filter_le _ _
  have h2 : cntW f l ≤ k := by
    have nd : ((l.filter fun p => decide (f p ≠ 0)).map f).Nodup := by
      rw [List.Nodup, List.pairwise_map]
      refine (hd.filter _).imp_of_mem fun {a b} ha hb h e => ?_
      have := h e
      have h0 := (List.mem_filter.mp ha).2
      simp [this] at h0
    have := nodup_le (m := List.range' 1 k) nd fun c hc => by
      obtain ⟨p, hp, rfl⟩ := List.mem_map.mp hc
      obtain ⟨h1, h2⟩ := List.mem_filter.mp hp
      have := hk p h1
      have : f p ≠ 0 := of_decide_eq_true h2
      rw [List.mem_range'_1]
      omega
    rw [List.length_map, List.length_range'] at this
    exact this
  omega

end My
namespace My
open PySem PySem.Spec PyProof.Rows L2 TL
open PyData (strOk)
/-! ### Greene's theorem for tables -/
theorem mem_sum {ls : List Nat} {l : Nat} (h : l ∈ ls) : l ≤ ls.sum := by
  induction ls with
  | nil => cases h
  | cons a ls ih =>
    rw [List.sum_cons]
    rcases List.mem_cons.mp h with rfl | h
    · omega
    · have := ih h; omega
theorem good_rows {R : Int → Int → Prop} {f : Int → Nat} {t : List (List Int)} : GoodW R f (rdW t) ↔ (∀ r ∈ t, GoodW R f r) ∧ t.Pairwise fun a r => ∀ x ∈ a, ∀ y ∈ r, f y = f x → f y ≠ 0 → R y x := by
  unfold GoodW rdW
  rw [List.pairwise_flatten, List.pairwise_reverse]
  constructor
  · rintro ⟨h1, h2⟩
    exact ⟨fun r hr => h1 r (List.mem_reverse.mpr hr), h2.imp fun {a b} h x hx y hy => h y hy x hx⟩
  · rintro ⟨h1, h2⟩
    exact ⟨fun r hr => h1 r (List.mem_reverse.mp hr), h2.imp fun {a b} h y hy x hx => h x hx y hy⟩
theorem up_most {t : List (List Int)} (h : IsTab t) {k n : Nat} (hc : Can (· < ·) k (rdW t) n) : n ≤ upS (t.map List.length) k := by
  obtain ⟨f, hg, hk, rfl⟩ := hc
  have hm : ∀ l ∈ t.map List.length, l ≤ (t.map List.length).sum := fun l hl => mem_sum hl
  have hm2 : ∀ r ∈ t, r.length ≤ (t.map List.length).sum := fun r hr => hm _ (List.mem_map.mpr ⟨r, hr, rfl⟩)
  rw [cnt_perm (rdW_perm t), cnt_perm (cols_perm t _ hm2), cnt_flatMap, upS_eq (tab_lens h) hm]
  refine sum_le fun j _ => ?_
  rw [← colT_len]
  have pr := (good_rows.mp hg).2
  refine cnt_diff (fun p hp => ?_) ?_
  · obtain ⟨r, hr, hp⟩ := List.mem_filterMap.mp hp
    exact hk p ((rdW_perm t).mem_iff.mpr (List.mem_flatten.mpr ⟨r, hr, List.mem_of_getElem? hp⟩))
  · unfold colT
    rw [List.pairwise_filterMap]
    refine (pr.and (tab_pair h)).imp fun {a r} ⟨h1, h2⟩ x hx y hy e => ?_
    have hl := lt_of_get hy
    have hx' : a.getD j 0 = x := by rw [List.getD_eq_getElem?_getD, hx]; rfl
    have hy' : r.getD j 0 = y := by rw [List.getD_eq_getElem?_getD, hy]; rfl
    have hlt := h2.2 j hl
    rw [hx', hy'] at hlt
    cases hf : f x with
    | zero => rfl
    | succ m =>
      exfalso
      have := h1 x (List.mem_of_getElem? hx) y (List.mem_of_getElem? hy) e.symm (by omega)
      omega
theorem dn_most {t : List (List Int)} (h : RowsInc t) {k n : Nat} (hc : Can (· > ·) k (rdW t) n) : n ≤ dnS (t.map List.length) k := by
  obtain ⟨f, hg, hk, rfl⟩ := hc
  have e : cntW f t.flatten = (t.map fun r => cntW f r).sum := by
    have := cnt_flatMap f (fun r : List Int => r) t
    rw [← this]
    congr 1
    simp [List.flatMap_id']
  rw [cnt_perm (rdW_perm t), e, dnS_eq, List.map_map]
  refine sum_le fun r hr => ?_
  have gr := (good_rows.mp hg).1 r hr
  refine cnt_diff (fun p hp => hk p ((rdW_perm t).mem_iff.mpr (List.mem_flatten.mpr ⟨r, hr, hp⟩))) ?_
  unfold GoodW at gr
  refine (gr.and (h r hr).2).imp fun {a b} ⟨h1, h2⟩ e => ?_
  cases hf : f a with
  | zero => rfl
  | succ m =>
    exfalso
    have := h1 e (by omega)
    omega
theorem cnt_zero (l : List Int) : cntW (fun _ => 0) l = 0 := by
  unfold cntW
  rw [List.filter_eq_nil_iff.mpr fun p _ => by simp]
  rfl
theorem idx_get {x : Int} : ∀ {l : List Int}, x ∈ l → l[l.idxOf x]? = some x
  | a :: l, h => by
    by_cases e : a = x
    · subst e; simp
    · have hx : x ∈ l := by
        rcases List.mem_cons.mp h with h | h
        · exact absurd h.symm e
        · exact h
      have : (a :: l).idxOf x = l.idxOf x + 1 := by rw [List.idxOf_cons, beq_eq_false_iff_ne.mpr e]; rfl
      rw [this, List.getElem?_cons_succ]
      exact idx_get hx
theorem up_have : ∀ (t : List (List Int)) (k : Nat), RowsInc t → t.flatten.Nodup → ∃ f : Int → Nat, GoodW (· < ·) f (rdW t) ∧ (∀ p, f p ≤ k) ∧ cntW f t.flatten = upS (t.map List.length) k
  | [], k, _, _ => ⟨fun _ => 0, .nil, fun _ => Nat.zero_le _, by rw [cnt_zero]; simp [upS]⟩
  | r :: t, 0, _, _ => ⟨fun _ => 0, by unfold GoodW; exact List.pairwise_of_forall fun _ _ _ h => absurd rfl h, fun _ => Nat.le_refl _, by rw [cnt_zero]; simp [upS]⟩
  | r :: t, k + 1, hi, nd => by
    rw [List.flatten_cons, List.nodup_append] at nd
    obtain ⟨f, h1, h2, h3⟩ := up_have t k hi.tail nd.2.1
    let g : Int → Nat := fun p => if p ∈ r then 1 else if f p = 0 then 0 else f p + 1
    have gr : ∀ p ∈ r, g p = 1 := fun p hp => if_pos hp
    have gn : ∀ p, p ∉ r → g p = if f p = 0 then 0 else f p + 1 := fun p hp => if_neg hp
    have nt : ∀ p ∈ t.flatten, p ∉ r := fun p hp hr => nd.2.2 p hr p hp rfl
    have nrd : ∀ p ∈ rdW t, p ∉ r := fun p hp => nt p ((rdW_perm t).mem_iff.mp hp)
    refine ⟨g, ?_, fun p => ?_, ?_⟩
    · unfold GoodW at *
      rw [rdW_cons, List.pairwise_append]
      refine ⟨h1.imp_of_mem fun {a b} ha hb h => ?_, ?_, fun p hp q hq => ?_⟩
      · rw [gn a (nrd a ha), gn b (nrd b hb)]
        intro e h0
        by_cases za : f a = 0
        · rw [if_pos za] at h0; exact absurd rfl h0
        · by_cases zb : f b = 0
          · rw [if_neg za, if_pos zb] at e; omega
          · rw [if_neg za, if_neg zb] at e
            exact h (by omega) za
      · exact (hi r List.mem_cons_self).2.imp fun {a b} h _ _ => h
      · rw [gn p (nrd p hp), gr q hq]
        intro e h0
        split at e
        · omega
        · omega
    · show (if p ∈ r then 1 else if f p = 0 then 0 else f p + 1) ≤ k + 1
      have := h2 p
      split
      · omega
      · split <;> omega
    · rw [List.flatten_cons, List.map_cons]
      have c1 : cntW g (r ++ t.flatten) = cntW g r + cntW g t.flatten := by unfold cntW; rw [List.filter_append, List.length_append]
      have c2 : cntW g r = r.length := by
        unfold cntW
        rw [List.filter_eq_self.mpr fun p hp => by rw [gr p hp]; rfl]
      have c3 : cntW g t.flatten = cntW f t.flatten := cnt_congr fun p hp => by
        rw [gn p (nt p hp)]
        split <;> omega
      rw [c1, c2, c3, h3]
      unfold upS
      rw [List.take_succ_cons, List.sum_cons]
/-- the column of a number in a row -/
def cixR (k : Nat) (r : List Int) (p : Int) : Nat := if r.idxOf p < k then r.idxOf p + 1 else 0
def cixT (k : Nat) : List (List Int) → Int → Nat
  | [], _ => 0
  | r :: t, p => if p ∈ r then cixR k r p else cixT k t p
theorem cixT_in {k : Nat} : ∀ {t : List (List Int)}, t.flatten.Nodup → ∀ r ∈ t, ∀ p ∈ r, cixT k t p = cixR k r p
  | a :: t, nd, r, hr, p, hp => by
    rw [List.flatten_cons, List.nodup_append] at nd
    unfold cixT
    rcases List.mem_cons.mp hr with rfl | hr
    · rw [if_pos hp]
    · rw [if_neg fun h => nd.2.2 p h p (List.mem_flatten.mpr ⟨r, hr, hp⟩) rfl]
      exact cixT_in nd.2.1 r hr p hp
theorem dn_have {t : List (List Int)} (k : Nat) (h : IsTab t) (hi : RowsInc t) (nd : t.flatten.Nodup) : ∃ f : Int → Nat, GoodW (· > ·) f (rdW t) ∧ (∀ p ∈ rdW t, f p ≤ k) ∧ cntW f t.flatten = dnS (t.map List.length) k := by
  have ix : ∀ r ∈ t, ∀ p ∈ r, cixT k t p = cixR k r p := fun r hr p hp => cixT_in nd r hr p hp
  refine ⟨cixT k t, ?_, fun p hp => ?_, ?_⟩
  · rw [good_rows]
    refine ⟨fun r hr => ?_, ?_⟩
    · unfold GoodW
      refine (hi r hr).2.imp_of_mem fun {a b} ha hb hab e h0 => ?_
      exfalso
      rw [ix r hr a ha] at e h0
      rw [ix r hr b hb] at e
      unfold cixR at e h0
      have : r.idxOf a = r.idxOf b := by split at e <;> split at e <;> first | omega | (rename_i h1 h2; rw [if_neg h1] at h0; exact absurd rfl h0)
      have e2 : r[r.idxOf a]? = some a := idx_get ha
      have e3 : r[r.idxOf b]? = some b := idx_get hb
      rw [this, e3] at e2
      have : b = a := Option.some.inj e2
      omega
    · refine (tab_pair h).imp_of_mem fun {a r} ha hr hadj x hx y hy e h0 => ?_
      rw [ix r hr y hy] at e h0
      rw [ix a ha x hx] at e
      unfold cixR at e h0
      have hyk : r.idxOf y < k := by
        by_cases hh : r.idxOf y < k
        · exact hh
        · rw [if_neg hh] at h0; exact absurd rfl h0
      have : r.idxOf y = a.idxOf x := by
        rw [if_pos hyk] at e
        split at e <;> omega
      have e2 : a[a.idxOf x]? = some x := idx_get hx
      have e3 : r[r.idxOf y]? = some y := idx_get hy
      have hl := lt_of_get e3
      have hlt := hadj.2 _ hl
      have ex : a.getD (r.idxOf y) 0 = x := by rw [this, List.getD_eq_getElem?_getD, e2]; rfl
      have ey : r.getD (r.idxOf y) 0 = y := by rw [List.getD_eq_getElem?_getD, e3]; rfl
      rw [ex, ey] at hlt
      show y > x
      omega
  · obtain ⟨r, hr, hp⟩ := List.mem_flatten.mp ((rdW_perm t).mem_iff.mp hp)
    rw [ix r hr p hp]
    unfold cixR
    split <;> omega
  · have e : cntW (cixT k t) t.flatten = (t.map fun r => cntW (cixT k t) r).sum := by
      have := cnt_flatMap (cixT k t) (fun r : List Int => r) t
      rw [← this]
      congr 1
      simp [List.flatMap_id']
    rw [e, dnS_eq, List.map_map]
    congr 1
    apply List.map_congr_left
    intro r hr
    have c1 : cntW (cixT k t) r = cntW (cixR k r) r := cnt_congr fun p hp => by rw [ix r hr p hp]
    rw [c1]
    have ndr : r.Nodup := (hi r hr).2.imp fun {a b} h => by omega
    have key : ∀ (s u : List Int), r = s ++ u → ((u.filter fun p => decide (cixR k r p ≠ 0)).length) = min k (s.length + u.length) - min k s.length := by
      intro s u
      induction u generalizing s with
      | nil => intro e; simp
      | cons a u ih =>
        intro e
        have ih := ih (s ++ [a]) (by rw [e]; simp)
        rw [List.filter_cons]
        have hidx : r.idxOf a = s.length := by
          rw [e] at ndr ⊢
          have hna : a ∉ s := fun h => by
            rw [List.nodup_append] at ndr
            exact ndr.2.2 a h a (by simp) rfl
          rw [List.idxOf_append, if_neg hna]
          simp
        have hc : cixR k r a = if s.length < k then s.length + 1 else 0 := by unfold cixR; rw [hidx]
        rw [List.length_append, List.length_singleton] at ih
        rw [hc]
        by_cases hk : s.length < k
        · simp only [hk, if_true, ne_eq, Nat.add_eq_zero_iff, Nat.one_ne_zero, and_false, not_false_eq_true, decide_true, List.length_cons]
          rw [ih]
          omega
        · simp only [hk, if_false, ne_eq, not_true_eq_false, decide_false, Bool.false_eq_true, List.length_cons]
          rw [ih]
          omega
    have := key [] r rfl
    unfold cntW
    rw [this]
    simp

end My
namespace My
open PySem PySem.Spec PyProof.Rows L2 TL
open PyData (strOk)
/-! ### shapes of points -/
def shp (qs : List (Int × Int)) : List Nat := (tabN qs).1.map List.length
theorem tab_all {qs : List (Int × Int)} (ok : PtsOk qs) : TI (tabN qs).1 (tabN qs).2 qs ∧ IsTab (tabN qs).1 ∧ IsTab (tabN qs).2 ∧ Kn (qs.map (·.2)) (rdW (tabN qs).1) := by
  have h1 := ti_at ok qs.length
  have h2 := both_tab ok qs.length
  have h3 := tab_kn ok qs.length
  rw [List.take_length] at h1 h2 h3
  exact ⟨h1, h2.1, h2.2, h3⟩
theorem flat_nd {qs : List (Int × Int)} (ok : PtsOk qs) : (tabN qs).1.flatten.Nodup ∧ (tabN qs).2.flatten.Nodup := by
  have h := (tab_all ok).1
  refine ⟨(h.pf.nodup_iff).mpr ok.ys, (h.qf.nodup_iff).mpr ?_⟩
  rw [List.Nodup, List.pairwise_map]
  exact ok.xs.imp fun {a b} h => by omega
theorem g_up {qs : List (Int × Int)} (ok : PtsOk qs) (k : Nat) : Can (· < ·) k (qs.map (·.2)) (upS (shp qs) k) ∧ ∀ n, Can (· < ·) k (qs.map (·.2)) n → n ≤ upS (shp qs) k := by
  obtain ⟨ti, t1, t2, kn⟩ := tab_all ok
  have nd := flat_nd ok
  refine ⟨?_, fun n h => up_most t1 ((kn_inc kn ok.ys).mp h)⟩
  obtain ⟨f, h1, h2, h3⟩ := up_have _ k ti.pr nd.1
  exact (kn_inc kn ok.ys).mpr ⟨f, h1, fun p _ => h2 p, by rw [cnt_perm (rdW_perm _)]; exact h3⟩
theorem g_dn {qs : List (Int × Int)} (ok : PtsOk qs) (k : Nat) : Can (· > ·) k (qs.map (·.2)) (dnS (shp qs) k) ∧ ∀ n, Can (· > ·) k (qs.map (·.2)) n → n ≤ dnS (shp qs) k := by
  obtain ⟨ti, t1, t2, kn⟩ := tab_all ok
  have nd := flat_nd ok
  refine ⟨?_, fun n h => dn_most ti.pr ((kn_dec kn ok.ys).mp h)⟩
  obtain ⟨f, h1, h2, h3⟩ := dn_have k t1 ti.pr nd.1
  exact (kn_dec kn ok.ys).mpr ⟨f, h1, h2, by rw [cnt_perm (rdW_perm _)]; exact h3⟩
theorem upS_det : ∀ {ls ms : List Nat}, (∀ l ∈ ls, 0 < l) → (∀ m ∈ ms, 0 < m) → (∀ k, upS ls k = upS ms k) → ls = ms
  | [], [], _, _, _ => rfl
  | [], m :: ms, _, h, e => by
    have := e 1
    have := h m List.mem_cons_self
    simp [upS] at *
    omega
  | l :: ls, [], h, _, e => by
    have := e 1
    have := h l List.mem_cons_self
    simp [upS] at *
    omega
  | l :: ls, m :: ms, h, h', e => by
    have e1 : l = m := by simpa [upS] using e 1
    subst e1
    have ih := upS_det (ls := ls) (ms := ms) (fun x hx => h x (List.mem_cons_of_mem _ hx)) (fun x hx => h' x (List.mem_cons_of_mem _ hx)) fun k => by
      have := e (k + 1)
      simpa [upS] using this
    rw [ih]
theorem shp_pos {qs : List (Int × Int)} (ok : PtsOk qs) : ∀ l ∈ shp qs, 0 < l := fun l hl => by
  obtain ⟨r, hr, rfl⟩ := List.mem_map.mp hl
  exact List.length_pos_iff.mpr ((tab_all ok).1.pr r hr).1
def conjL (ls : List Nat) : List Nat := (List.range (ls.headD 0)).map fun j => colL ls j
theorem conj_pos {ls : List Nat} : ∀ c ∈ conjL ls, 0 < c := fun c hc => by
  obtain ⟨j, hj, rfl⟩ := List.mem_map.mp hc
  have hj := List.mem_range.mp hj
  cases ls with
  | nil => simp at hj
  | cons l ls =>
    have hj : j < l := hj
    rw [colL_cons, if_pos hj]
    omega
theorem conj_up {ls : List Nat} (hd : ls.Pairwise (· ≥ ·)) (k : Nat) : upS (conjL ls) k = dnS ls k := by
  have z : ∀ j, ls.headD 0 ≤ j → colL ls j = 0 := fun j hj => by
    unfold colL
    rw [List.filter_eq_nil_iff.mpr fun l hl => ?_]
    · rfl
    · cases ls with
      | nil => cases hl
      | cons a ls =>
        have hj : a ≤ j := hj
        rcases List.mem_cons.mp hl with rfl | hl
        · simp; omega
        · have := (List.pairwise_cons.mp hd).1 l hl
          simp; omega
  have more : ∀ m d, ls.headD 0 ≤ m → dnS ls (m + d) = dnS ls m := fun m d hm => by
    induction d with
    | zero => rfl
    | succ d ih =>
      unfold dnS at *
      rw [Nat.add_succ, List.range_succ, List.map_append, List.sum_append, ih]
      simp [z (m + d) (by omega)]
  unfold upS conjL
  rw [← List.map_take, List.take_range]
  show dnS ls (min k (ls.headD 0)) = dnS ls k
  by_cases h : k ≤ ls.headD 0
  · rw [Nat.min_eq_left h]
  · rw [Nat.min_eq_right (by omega)]
    have := more (ls.headD 0) (k - ls.headD 0) (Nat.le_refl _)
    rw [← this]
    congr 1
    omega
theorem shp_same {qs es : List (Int × Int)} (o1 : PtsOk qs) (o2 : PtsOk es) (h : ∀ k n, Can (· < ·) k (qs.map (·.2)) n ↔ Can (· < ·) k (es.map (·.2)) n) : shp es = shp qs := by
  refine upS_det (shp_pos o2) (shp_pos o1) fun k => ?_
  have a := g_up o1 k
  have b := g_up o2 k
  have h1 := b.2 _ ((h k _).mp a.1)
  have h2 := a.2 _ ((h k _).mpr b.1)
  omega
theorem shp_turn {qs es : List (Int × Int)} (o1 : PtsOk qs) (o2 : PtsOk es) (h : ∀ k n, Can (· > ·) k (qs.map (·.2)) n ↔ Can (· < ·) k (es.map (·.2)) n) : shp es = conjL (shp qs) := by
  refine upS_det (shp_pos o2) conj_pos fun k => ?_
  rw [conj_up (ls := shp qs) (tab_lens (tab_all o1).2.1)]
  have a := g_dn o1 k
  have b := g_up o2 k
  have h1 := b.2 _ ((h k _).mp a.1)
  have h2 := a.2 _ ((h k _).mpr b.1)
  omega
/-! mirrors -/
theorem can_neg {R : Int → Int → Prop} {k n : Nat} {w : List Int} (h : Can R k w n) : Can (fun a b => R (-a) (-b)) k (w.map fun y => -y) n := by
  obtain ⟨f, hg, hk, hc⟩ := h
  refine ⟨fun p => f (-p), ?_, fun p hp => ?_, ?_⟩
  · unfold GoodW at *
    rw [List.pairwise_map]
    exact hg.imp fun {a b} h => by simpa only [Int.neg_neg] using h
  · obtain ⟨y, hy, rfl⟩ := List.mem_map.mp hp
    show f (- -y) ≤ k
    rw [Int.neg_neg]
    exact hk y hy
  · rw [← hc]
    unfold cntW
    rw [List.filter_map, List.length_map]
    congr 1
    apply List.filter_congr
    intro y _
    show decide (f (- -y) ≠ 0) = _
    rw [Int.neg_neg]
theorem turn_iff {k n : Nat} {w : List Int} : Can (· > ·) k w n ↔ Can (· < ·) k w.reverse n := ⟨fun h => can_rev h, fun h => by have := can_rev h; rw [List.reverse_reverse] at this; exact this⟩
theorem neg_neg_map (w : List Int) : (w.map fun y => -y).map (fun y => -y) = w := by
  rw [List.map_map]
  conv => rhs; rw [← List.map_id w]
  apply List.map_congr_left
  intro y _
  show - -y = y
  omega
theorem can_imp {R S : Int → Int → Prop} {k n : Nat} {w : List Int} (h : Can R k w n) (hi : ∀ a b, R a b → S a b) : Can S k w n := by
  obtain ⟨f, hg, hk, hc⟩ := h
  exact ⟨f, hg.imp fun {a b} h e h0 => hi _ _ (h e h0), hk, hc⟩
theorem neg_iff {k n : Nat} {w : List Int} : Can (· > ·) k w n ↔ Can (· < ·) k (w.map fun y => -y) n := by
  constructor
  · exact fun h => can_imp (can_neg h) fun a b h => by have h : -a > -b := h; show a < b; omega
  · intro h
    have := can_imp (S := (· > ·)) (can_neg h) fun a b h => by have h : -a < -b := h; show a > b; omega
    rwa [neg_neg_map] at this
/-! exchange -/
theorem pair_mem {S : Int × Int → Int × Int → Prop} {qs : List (Int × Int)} (hx : qs.Pairwise fun p q => p.1 < q.1) (hs : qs.Pairwise S) {p q : Int × Int} (hp : p ∈ qs) (hq : q ∈ qs) (h : p.1 < q.1) : S p q := by
  obtain ⟨i, hi⟩ := List.getElem?_of_mem hp
  obtain ⟨j, hj⟩ := List.getElem?_of_mem hq
  have li := lt_of_get hi
  have lj := lt_of_get hj
  have ei := (List.getElem?_eq_some_iff.mp hi).2
  have ej := (List.getElem?_eq_some_iff.mp hj).2
  rw [List.pairwise_iff_getElem] at hx hs
  rcases Nat.lt_trichotomy i j with c | c | c
  · have := hs i j li lj c
    rwa [ei, ej] at this
  · subst c
    rw [ei] at ej
    rw [ej] at h
    omega
  · have := hx j i lj li c
    rw [ei, ej] at this
    omega
abbrev swp (p : Int × Int) : Int × Int := (p.2, p.1)
def yOf (qs : List (Int × Int)) (x : Int) : Int := ((qs.find? fun p => decide (p.1 = x)).map (·.2)).getD 0
theorem yOf_eq {qs : List (Int × Int)} (hx : qs.Pairwise fun p q => p.1 < q.1) {p : Int × Int} (hp : p ∈ qs) : yOf qs p.1 = p.2 := by
  unfold yOf
  induction qs with
  | nil => cases hp
  | cons q qs ih =>
    have h' := List.pairwise_cons.mp hx
    rw [List.find?_cons]
    rcases List.mem_cons.mp hp with rfl | hp
    · simp
    · have := h'.1 p hp
      rw [decide_eq_false (by omega)]
      exact ih h'.2 hp
theorem can_swap {k n : Nat} {qs es : List (Int × Int)} (o1 : PtsOk qs) (o2 : PtsOk es) (hp : es.Perm (qs.map swp)) (h : Can (· < ·) k (qs.map (·.2)) n) : Can (· < ·) k (es.map (·.2)) n := by
  obtain ⟨f, hg, hk, hc⟩ := h
  have back : ∀ e ∈ es, ∃ p ∈ qs, e = swp p := fun e he => by
    obtain ⟨p, hp, rfl⟩ := List.mem_map.mp (hp.mem_iff.mp he)
    exact ⟨p, hp, rfl⟩
  have val : ∀ p ∈ qs, f (yOf qs (swp p).2) = f p.2 := fun p hp => by rw [show (swp p).2 = p.1 from rfl, yOf_eq o1.xs hp]
  have hg2 : qs.Pairwise fun p q => f p.2 = f q.2 → f p.2 ≠ 0 → p.2 < q.2 := by unfold GoodW at hg; rw [List.pairwise_map] at hg; exact hg
  refine ⟨fun x => f (yOf qs x), ?_, fun x hx => ?_, ?_⟩
  · unfold GoodW
    rw [List.pairwise_map]
    refine o2.xs.imp_of_mem fun {a b} ha hb hab e h0 => ?_
    obtain ⟨p, hp, rfl⟩ := back a ha
    obtain ⟨q, hq, rfl⟩ := back b hb
    have e : f (yOf qs (swp p).2) = f (yOf qs (swp q).2) := e
    have h0 : f (yOf qs (swp p).2) ≠ 0 := h0
    rw [val p hp] at e h0
    rw [val q hq] at e
    have hab : p.2 < q.2 := hab
    show p.1 < q.1
    rcases Int.lt_trichotomy p.1 q.1 with c | c | c
    · exact c
    · have e1 := yOf_eq o1.xs hp
      have e2 := yOf_eq o1.xs hq
      rw [c] at e1
      omega
    · have := pair_mem o1.xs hg2 hq hp c e.symm (by omega)
      omega
  · obtain ⟨e, he, rfl⟩ := List.mem_map.mp hx
    obtain ⟨p, hp, rfl⟩ := back e he
    show f (yOf qs (swp p).2) ≤ k
    rw [val p hp]
    exact hk _ (List.mem_map.mpr ⟨p, hp, rfl⟩)
  · rw [← hc]
    have h1 : cntW (fun x => f (yOf qs x)) (es.map (·.2)) = cntW (fun x => f (yOf qs x)) ((qs.map swp).map (·.2)) := cnt_perm (hp.map _)
    rw [h1]
    unfold cntW
    rw [List.map_map, List.filter_map, List.filter_map, List.length_map, List.length_map]
    congr 1
    apply List.filter_congr
    intro p hp
    show decide (f (yOf qs (swp p).2) ≠ 0) = decide (f p.2 ≠ 0)
    rw [val p hp]
theorem swap_perm {qs es : List (Int × Int)} (hp : es.Perm (qs.map swp)) : qs.Perm (es.map swp) := by
  have := hp.map swp
  rw [List.map_map] at this
  have e : qs.map (swp ∘ swp) = qs := by
    conv => rhs; rw [← List.map_id qs]
    apply List.map_congr_left
    intro p _
    rfl
  rw [e] at this
  exact this.symm
theorem shp_swap {qs es : List (Int × Int)} (o1 : PtsOk qs) (o2 : PtsOk es) (hp : es.Perm (qs.map swp)) : shp es = shp qs :=
  shp_same o1 o2 fun k n => ⟨can_swap o1 o2 hp, can_swap o2 o1 (swap_perm hp)⟩

end My
namespace My
open PySem PySem.Spec PyProof.Rows L2 TL
open PyData (strOk)
/-! ### parts of tables; points exchanged -/
def rv (v : Int) (r : List Int) : List Int := r.filter fun y => decide (y ≤ v)
def EqT (A B : List (List Int)) : Prop := ∀ i, A.getD i [] = B.getD i []
theorem EqT.refl (A : List (List Int)) : EqT A A := fun _ => rfl
theorem EqT.trans {A B D : List (List Int)} (h : EqT A B) (h' : EqT B D) : EqT A D := fun i => (h i).trans (h' i)
theorem eqT_cons {a : List Int} {A B : List (List Int)} (h : EqT A B) : EqT (a :: A) (a :: B) := fun i => by
  cases i with
  | zero => rfl
  | succ i => exact h i
theorem ins_eqT : ∀ {A B : List (List Int)} (n : Int), EqT A B → EqT (insN A n).1 (insN B n).1
  | [], [], _, _ => EqT.refl _
  | [], b :: B, n, h => fun i => by
    have hb : b = [] := (h 0).symm
    subst hb
    cases i with
    | zero => rfl
    | succ i => exact h (i + 1)
  | a :: A, [], n, h => fun i => by
    have ha : a = [] := h 0
    subst ha
    cases i with
    | zero => rfl
    | succ i => exact h (i + 1)
  | a :: A, b :: B, n, h => by
    have hb : a = b := h 0
    subst hb
    have h' : EqT A B := fun i => h (i + 1)
    cases hp : (placedN a n).2 with
    | none =>
      simp only [insN, hp]
      exact eqT_cons h'
    | some m =>
      simp only [insN, hp]
      exact eqT_cons (ins_eqT m h')
theorem rv_placed {v : Int} : ∀ (r : List Int) (n : Int), n ≤ v → r.Pairwise (· < ·) → rv v (placedN r n).1 = (placedN (rv v r) n).1 ∧ (∀ z, (placedN r n).2 = some z → (placedN (rv v r) n).2 = if z ≤ v then some z else none) ∧ ((placedN r n).2 = none → (placedN (rv v r) n).2 = none)
  | [], n, hn, _ => by
    refine ⟨?_, fun z h => by simp [placedN] at h, fun _ => rfl⟩
    simp [placedN, rv, hn]
  | x :: r, n, hn, hs => by
    have hs' := List.pairwise_cons.mp hs
    by_cases hx : n < x
    · have e : placedN (x :: r) n = (n :: r, some x) := by simp [placedN, hx]
      rw [e]
      by_cases hv : x ≤ v
      · have e2 : rv v (x :: r) = x :: rv v r := by simp [rv, hv]
        have e3 : placedN (x :: rv v r) n = (n :: rv v r, some x) := by simp [placedN, hx]
        rw [e2, e3]
        refine ⟨by simp [rv, hn], fun z h => ?_, fun h => by cases h⟩
        have h : some x = some z := h
        cases h
        rw [if_pos hv]
      · have e0 : rv v r = [] := List.filter_eq_nil_iff.mpr fun y hy => by have := hs'.1 y hy; simp; omega
        have e2 : rv v (x :: r) = [] := by
          show (x :: r).filter _ = []
          rw [List.filter_cons]
          simp only [hv, decide_false, Bool.false_eq_true, if_false]
          exact e0
        rw [e2]
        refine ⟨?_, fun z h => ?_, fun h => by cases h⟩
        · show (n :: r).filter _ = [n]
          rw [List.filter_cons]
          simp only [hn, decide_true, if_true]
          exact congrArg (n :: ·) e0
        · have h : some x = some z := h
          cases h
          rw [if_neg hv]
          rfl
    · have hv : x ≤ v := by omega
      have e : placedN (x :: r) n = (x :: (placedN r n).1, (placedN r n).2) := by simp [placedN, hx]
      have e2 : rv v (x :: r) = x :: rv v r := by simp [rv, hv]
      have e3 : placedN (x :: rv v r) n = (x :: (placedN (rv v r) n).1, (placedN (rv v r) n).2) := by simp [placedN, hx]
      obtain ⟨h1, h2, h3⟩ := rv_placed r n hn hs'.2
      rw [e, e2, e3]
      refine ⟨?_, h2, h3⟩
      show rv v (x :: (placedN r n).1) = _
      rw [← h1]
      simp [rv, hv]
theorem rv_over {v : Int} : ∀ (r : List Int) (n : Int), v < n → rv v (placedN r n).1 = rv v r ∧ ∀ z, (placedN r n).2 = some z → v < z
  | [], n, hn => by
    refine ⟨?_, fun z h => by simp [placedN] at h⟩
    have : ¬ n ≤ v := by omega
    simp [placedN, rv, this]
  | x :: r, n, hn => by
    have hnv : ¬ n ≤ v := by omega
    by_cases hx : n < x
    · have e : placedN (x :: r) n = (n :: r, some x) := by simp [placedN, hx]
      have hxv : ¬ x ≤ v := by omega
      rw [e]
      refine ⟨by simp [rv, hnv, hxv], fun z h => ?_⟩
      have h : some x = some z := h
      cases h
      omega
    · have e : placedN (x :: r) n = (x :: (placedN r n).1, (placedN r n).2) := by simp [placedN, hx]
      obtain ⟨h1, h2⟩ := rv_over r n hn
      rw [e]
      refine ⟨?_, h2⟩
      unfold rv at *
      show (x :: (placedN r n).1).filter _ = _
      rw [List.filter_cons, List.filter_cons, h1]
theorem rv_ins {v : Int} : ∀ (t : List (List Int)) (n : Int), (∀ r ∈ t, r.Pairwise (· < ·)) → (n ≤ v → EqT ((insN t n).1.map (rv v)) (insN (t.map (rv v)) n).1) ∧ (v < n → EqT ((insN t n).1.map (rv v)) (t.map (rv v)))
  | [], n, _ => by
    refine ⟨fun h => ?_, fun h i => ?_⟩
    · have : rv v [n] = [n] := by simp [rv, h]
      show EqT [rv v [n]] [[n]]
      rw [this]
      exact EqT.refl _
    · have hn : ¬ n ≤ v := by omega
      have : rv v [n] = [] := by simp [rv, hn]
      show ([rv v [n]] : List (List Int)).getD i [] = ([] : List (List Int)).getD i []
      rw [this]
      cases i <;> rfl
  | r :: t, n, h => by
    have hr := h r List.mem_cons_self
    have ih := fun m => rv_ins (v := v) t m fun q hq => h q (List.mem_cons_of_mem _ hq)
    refine ⟨fun hn => ?_, fun hn => ?_⟩
    · obtain ⟨h1, h2, h3⟩ := rv_placed r n hn hr
      cases hp : (placedN r n).2 with
      | none =>
        have := h3 hp
        simp only [insN, hp, List.map_cons, this, h1]
        exact EqT.refl _
      | some z =>
        have := h2 z hp
        by_cases hz : z ≤ v
        · rw [if_pos hz] at this
          simp only [insN, hp, List.map_cons, this, h1]
          exact eqT_cons ((ih z).1 hz)
        · rw [if_neg hz] at this
          simp only [insN, hp, List.map_cons, this, h1]
          exact eqT_cons ((ih z).2 (by omega))
    · obtain ⟨h1, h2⟩ := rv_over r n hn
      cases hp : (placedN r n).2 with
      | none =>
        simp only [insN, hp, List.map_cons, h1]
        exact EqT.refl _
      | some z =>
        simp only [insN, hp, List.map_cons, h1]
        exact eqT_cons ((ih z).2 (h2 z hp))
theorem PtsOk.filt {qs : List (Int × Int)} (h : PtsOk qs) (p : Int × Int → Bool) : PtsOk (qs.filter p) := ⟨h.xs.filter _, h.ys.sublist (List.filter_sublist.map _)⟩
theorem rp_at {qs : List (Int × Int)} (ok : PtsOk qs) (v : Int) : ∀ i, EqT (((qs.take i).foldl tabStep ([], [])).1.map (rv v)) (((qs.take i).filter fun p => decide (p.2 ≤ v)).foldl tabStep ([], [])).1
  | 0 => EqT.refl _
  | i + 1 => by
    have ih := rp_at ok v i
    by_cases hi : i < qs.length
    · have e : qs.take (i + 1) = qs.take i ++ [qs[i]] := by rw [List.take_add_one, List.getElem?_eq_getElem hi]; rfl
      have ti := ti_at ok i
      rw [e, List.foldl_append, List.filter_append, List.foldl_append]
      generalize (qs.take i).foldl tabStep ([], []) = st at ih ti
      have rw_ := rv_ins (v := v) st.1 qs[i].2 fun r hr => (ti.pr r hr).2
      by_cases hv : qs[i].2 ≤ v
      · have ef : [qs[i]].filter (fun p => decide (p.2 ≤ v)) = [qs[i]] := by simp [hv]
        rw [ef]
        exact (rw_.1 hv).trans (ins_eqT _ ih)
      · have ef : [qs[i]].filter (fun p => decide (p.2 ≤ v)) = [] := by simp [hv]
        rw [ef]
        exact (rw_.2 (by omega)).trans ih
    · rw [List.take_of_length_le (by omega)] at ih ⊢
      exact ih
theorem sec_rv {X : Int} : ∀ (s : List (List Int)) (k : Nat) (x : Int), X < x → EqT ((secR s k x).map (rv X)) (s.map (rv X))
  | [], k, x, h => fun i => by
    have hx : ¬ x ≤ X := by omega
    have : rv X [x] = [] := by simp [rv, hx]
    show ([rv X [x]] : List (List Int)).getD i [] = ([] : List (List Int)).getD i []
    rw [this]
    cases i <;> rfl
  | r :: s, 0, x, h => by
    have hx : ¬ x ≤ X := by omega
    have : rv X (r ++ [x]) = rv X r := by simp [rv, hx]
    show EqT (rv X (r ++ [x]) :: s.map (rv X)) _
    rw [this]
    exact EqT.refl _
  | r :: s, k + 1, x, h => eqT_cons (sec_rv s k x h)
theorem rq_at {qs : List (Int × Int)} (ok : PtsOk qs) (X : Int) : ∀ i, EqT (((qs.take i).foldl tabStep ([], [])).2.map (rv X)) (((qs.take i).filter fun p => decide (p.1 ≤ X)).foldl tabStep ([], [])).2
  | 0 => EqT.refl _
  | i + 1 => by
    have ih := rq_at ok X i
    by_cases hi : i < qs.length
    · have e : qs.take (i + 1) = qs.take i ++ [qs[i]] := by rw [List.take_add_one, List.getElem?_eq_getElem hi]; rfl
      by_cases hx : qs[i].1 ≤ X
      · -- all of them are looked at
        have ti := ti_at ok (i + 1)
        have all : ∀ p ∈ qs.take (i + 1), p.1 ≤ X := fun p hp => by
          obtain ⟨j, hj, rfl⟩ := List.mem_take_iff_getElem.mp hp
          by_cases hji : j = i
          · subst hji; exact hx
          · have := List.pairwise_iff_getElem.mp ok.xs j i (by omega) hi (by omega)
            omega
        have ef : (qs.take (i + 1)).filter (fun p => decide (p.1 ≤ X)) = qs.take (i + 1) := List.filter_eq_self.mpr fun p hp => decide_eq_true (all p hp)
        rw [ef]
        have er : ((qs.take (i + 1)).foldl tabStep ([], [])).2.map (rv X) = ((qs.take (i + 1)).foldl tabStep ([], [])).2 := by
          conv => rhs; rw [← List.map_id ((qs.take (i + 1)).foldl tabStep ([], [])).2]
          apply List.map_congr_left
          intro r hr
          refine List.filter_eq_self.mpr fun y hy => decide_eq_true ?_
          obtain ⟨p, hp, rfl⟩ := List.mem_map.mp ((ti.qf.mem_iff).mp (List.mem_flatten.mpr ⟨r, hr, hy⟩))
          exact all p hp
        rw [er]
        exact EqT.refl _
      · have ti := ti_at ok i
        rw [e, List.foldl_append, List.filter_append, List.foldl_append]
        generalize (qs.take i).foldl tabStep ([], []) = st at ih ti
        have ef : [qs[i]].filter (fun p => decide (p.1 ≤ X)) = [] := by simp [hx]
        rw [ef]
        have hk : (insN st.1 qs[i].2).2 ≤ st.2.length := by rw [← ti.len]; exact insN_le _ _
        have es : (([qs[i]] : List (Int × Int)).foldl tabStep st).2 = secR st.2 (insN st.1 qs[i].2).2 qs[i].1 := secN_eq _ _ _ hk
        rw [es]
        exact (sec_rv _ _ _ (by omega)).trans ih
    · rw [List.take_of_length_le (by omega)] at ih ⊢
      exact ih
theorem getD_len (t : List (List Int)) (i : Nat) : (t.getD i []).length = (t.map List.length).getD i 0 := by
  rw [List.getD_eq_getElem?_getD, List.getD_eq_getElem?_getD, List.getElem?_map]
  cases t[i]? <;> rfl
theorem rv_getD (t : List (List Int)) (v : Int) (i : Nat) : (t.map (rv v)).getD i [] = rv v (t.getD i []) := by
  rw [List.getD_eq_getElem?_getD, List.getD_eq_getElem?_getD, List.getElem?_map]
  cases t[i]? <;> rfl
theorem cnt_p {qs : List (Int × Int)} (ok : PtsOk qs) (v : Int) (i : Nat) : (rv v ((tabN qs).1.getD i [])).length = (shp (qs.filter fun p => decide (p.2 ≤ v))).getD i 0 := by
  have := rp_at ok v qs.length i
  rw [List.take_length, rv_getD] at this
  show (rv v ((qs.foldl tabStep ([], [])).1.getD i [])).length = _
  rw [this, getD_len]
  rfl
theorem cnt_q {qs : List (Int × Int)} (ok : PtsOk qs) (X : Int) (i : Nat) : (rv X ((tabN qs).2.getD i [])).length = (shp (qs.filter fun p => decide (p.1 ≤ X))).getD i 0 := by
  have := rq_at ok X qs.length i
  rw [List.take_length, rv_getD] at this
  show (rv X ((qs.foldl tabStep ([], [])).2.getD i [])).length = _
  rw [this, getD_len]
  have h := (tab_all (ok.filt fun p => decide (p.1 ≤ X))).1.sh
  show ((tabN (qs.filter fun p => decide (p.1 ≤ X))).2.map List.length).getD i 0 = _
  rw [← h]
  rfl
/-- what goes up is told by how many are at most each number -/
theorem rv_step {a : List Int} (h : a.Nodup) (x : Int) : (rv x a).length = (rv (x - 1) a).length + if x ∈ a then 1 else 0 := by
  induction a with
  | nil => rfl
  | cons b a ih =>
    rw [List.nodup_cons] at h
    have ih := ih h.2
    unfold rv at *
    rw [List.filter_cons, List.filter_cons]
    by_cases hb : b = x
    · subst hb
      have h1 : ¬ b ≤ b - 1 := by omega
      rw [if_neg h.1] at ih
      simp [h1, ih]
    · have hm : x ∈ b :: a ↔ x ∈ a := by
        rw [List.mem_cons]
        exact ⟨fun h => h.elim (fun e => absurd e.symm hb) id, .inr⟩
      simp only [hm]
      by_cases h2 : b ≤ x
      · have h3 : b ≤ x - 1 := by omega
        simp [h2, h3, ih]
        omega
      · have h3 : ¬ b ≤ x - 1 := by omega
        simp only [h2, h3, decide_false, Bool.false_eq_true, if_false]
        exact ih
theorem asc_det {a b : List Int} (ha : a.Pairwise (· < ·)) (hb : b.Pairwise (· < ·)) (h : ∀ v, (rv v a).length = (rv v b).length) : a = b := by
  have na : a.Nodup := ha.imp fun {x y} h => by omega
  have nb : b.Nodup := hb.imp fun {x y} h => by omega
  have hp : a.Perm b := by
    rw [List.perm_ext_iff_of_nodup na nb]
    intro x
    have h1 := rv_step na x
    have h2 := rv_step nb x
    have h3 := h x
    have h4 := h (x - 1)
    by_cases c1 : x ∈ a <;> by_cases c2 : x ∈ b
    · simp [c1, c2]
    · rw [if_pos c1] at h1; rw [if_neg c2] at h2; omega
    · rw [if_neg c1] at h1; rw [if_pos c2] at h2; omega
    · simp [c1, c2]
  exact hp.eq_of_pairwise (fun x y _ _ h h' => by omega) ha hb
theorem tab_det {A B : List (List Int)} (hA : RowsInc A) (hB : RowsInc B) (h : ∀ i v, (rv v (A.getD i [])).length = (rv v (B.getD i [])).length) : A = B := by
  have asc : ∀ {T : List (List Int)}, RowsInc T → ∀ i, (T.getD i []).Pairwise (· < ·) := fun {T} hT i => by
    rw [List.getD_eq_getElem?_getD]
    cases e : T[i]? with
    | none => exact .nil
    | some r => exact (hT r (List.mem_of_getElem? e)).2
  have rows : ∀ i, A.getD i [] = B.getD i [] := fun i => asc_det (asc hA i) (asc hB i) (h i)
  have some_ : ∀ {T : List (List Int)}, RowsInc T → ∀ i, T[i]? = if T.getD i [] = [] then none else some (T.getD i []) := fun {T} hT i => by
    rw [List.getD_eq_getElem?_getD]
    cases e : T[i]? with
    | none => rfl
    | some r =>
      have := (hT r (List.mem_of_getElem? e)).1
      simp [this]
  apply List.ext_getElem?
  intro i
  rw [some_ hA, some_ hB, rows i]
/-- the tables of exchanged points are exchanged -/
theorem tab_swap {qs es : List (Int × Int)} (o1 : PtsOk qs) (o2 : PtsOk es) (hp : es.Perm (qs.map swp)) : tabN es = ((tabN qs).2, (tabN qs).1) := by
  have t1 := (tab_all o1).1
  have t2 := (tab_all o2).1
  have f1 : ∀ v, (es.filter fun p => decide (p.1 ≤ v)).Perm ((qs.filter fun p => decide (p.2 ≤ v)).map swp) := fun v => by
    have := hp.filter fun p => decide (p.1 ≤ v)
    rwa [List.filter_map] at this
  have f2 : ∀ v, (es.filter fun p => decide (p.2 ≤ v)).Perm ((qs.filter fun p => decide (p.1 ≤ v)).map swp) := fun v => by
    have := hp.filter fun p => decide (p.2 ≤ v)
    rwa [List.filter_map] at this
  have a1 : (tabN es).1 = (tabN qs).2 := tab_det t2.pr t1.qr fun i v => by
    rw [cnt_p o2, cnt_q o1, shp_swap (o1.filt _) (o2.filt _) (f2 v)]
  have a2 : (tabN es).2 = (tabN qs).1 := tab_det t2.qr t1.pr fun i v => by
    rw [cnt_q o2, cnt_p o1, shp_swap (o1.filt _) (o2.filt _) (f1 v)]
  exact Prod.ext a1 a2

end My
namespace My
open PySem PySem.Spec PyProof.Rows L2 TL
open PyData (strOk)
/-! ### two tables of one shape belong to points -/
theorem split_below {m : Int} : ∀ {r : List Int}, r.Pairwise (· < ·) → m ∉ r → (∃ x ∈ r, x < m) → ∃ a y b, r = a ++ y :: b ∧ y < m ∧ ∀ z ∈ b, m < z
  | [], _, _, ⟨x, hx, _⟩ => by simp at hx
  | x :: r, hp, hm, ⟨x', hx', hlt⟩ => by
    rw [List.pairwise_cons] at hp
    rw [List.mem_cons, not_or] at hm
    by_cases h : ∃ z ∈ r, z < m
    · obtain ⟨a, y, b, h1, h2, h3⟩ := split_below hp.2 hm.2 h
      exact ⟨x :: a, y, b, by rw [h1]; rfl, h2, h3⟩
    · refine ⟨[], x, r, rfl, ?_, fun z hz => ?_⟩
      · rcases List.mem_cons.mp hx' with rfl | hr
        · exact hlt
        · exact absurd ⟨x', hr, hlt⟩ h
      · have h1 : ¬ z < m := fun hh => h ⟨z, hz, hh⟩
        have h2 : z ≠ m := fun e => hm.2 (e ▸ hz)
        omega
theorem placed_back {m y : Int} (hy : y < m) (b : List Int) : ∀ a : List Int, (∀ x ∈ a, x < y) → placedN (a ++ m :: b) y = (a ++ y :: b, some m)
  | [], _ => by simp [placedN, hy]
  | x :: a, h => by
    have h1 := h x List.mem_cons_self
    have ih := placed_back hy b a fun z hz => h z (List.mem_cons_of_mem _ hz)
    have : ¬ y < x := by omega
    simp [placedN, this, ih]
theorem placed_end {y : Int} : ∀ a : List Int, (∀ x ∈ a, x < y) → placedN a y = (a ++ [y], none)
  | [], _ => rfl
  | x :: a, h => by
    have h1 := h x List.mem_cons_self
    have ih := placed_end a fun z hz => h z (List.mem_cons_of_mem _ hz)
    have : ¬ y < x := by omega
    simp [placedN, this, ih]
theorem getD_mid (a b : List Int) (y m : Int) (i : Nat) : (a ++ m :: b).getD i 0 = if i = a.length then m else (a ++ y :: b).getD i 0 := by
  have e : a ++ m :: b = (a ++ y :: b).set a.length m := by
    rw [List.set_append_right _ _ (Nat.le_refl _), Nat.sub_self]
    rfl
  rw [e, getD_set (by simp)]
theorem last_of {r : List Int} (h : r ≠ []) : ∃ r' y, r = r' ++ [y] := ⟨r.dropLast, r.getLast h, (List.dropLast_concat_getLast h).symm⟩
theorem isTab_nil : IsTab [] := ⟨fun r hr => by simp at hr, fun k hk => by simp at hk⟩
theorem rowsInc_nil : RowsInc [] := fun r hr => by simp at hr
theorem rowsInc_cons {r : List Int} {t : List (List Int)} (h0 : r ≠ []) (h1 : r.Pairwise (· < ·)) (h : RowsInc t) : RowsInc (r :: t) := fun x hx => by
  rcases List.mem_cons.mp hx with rfl | hx
  · exact ⟨h0, h1⟩
  · exact h x hx
theorem head_nil {t : List (List Int)} (h : RowsInc t) (hl : (t.headD []).length = 0) : t = [] := by
  cases t with
  | nil => rfl
  | cons s t =>
    have hs := (h s List.mem_cons_self).1
    exact absurd (List.eq_nil_of_length_eq_zero hl) hs
theorem getD1 (r : List Int) (t : List (List Int)) : (r :: t).getD 1 [] = t.headD [] := by cases t <;> rfl
structure UnI (T t : List (List Int)) (y : Int) (k : Nat) : Prop where
  ins : insN T y = (t, k)
  pr : RowsInc T
  tb : IsTab T
  pf : (y :: T.flatten).Perm t.flatten
  hd : ∃ q, (t.headD [])[q]? = some y ∧ (T.headD []).length ≤ (t.headD []).length ∧ (∀ i, i < (T.headD []).length → (t.headD []).getD i 0 ≤ (T.headD []).getD i 0) ∧ ∀ i, q ≤ i → i < (T.headD []).length → y < (T.headD []).getD i 0
theorem unins : ∀ (t : List (List Int)) (k : Nat), RowsInc t → IsTab t → t.flatten.Nodup → k < t.length → (t.getD (k + 1) []).length < (t.getD k []).length → ∃ (T : List (List Int)) (y : Int), UnI T t y k
  | [], k, _, _, _, hk, _ => by simp at hk
  | r :: rest, 0, hi, ht, nd, _, hc => by
    obtain ⟨h0, h1⟩ := hi r List.mem_cons_self
    obtain ⟨r', y, rfl⟩ := last_of h0
    rw [getD1] at hc
    have hc : (rest.headD []).length < (r' ++ [y]).length := hc
    rw [List.length_append, List.length_singleton] at hc
    rw [List.pairwise_append] at h1
    have lt : ∀ x ∈ r', x < y := fun x hx => h1.2.2 x hx y (by simp)
    obtain ⟨t1, t2, t3⟩ := isTab_cons.mp ht
    by_cases hr : r' = []
    · subst hr
      have : rest = [] := head_nil hi.tail (by simpa using hc)
      subst this
      exact ⟨[], y, rfl, rowsInc_nil, isTab_nil, .refl _, 0, rfl, by simp, fun i hi => by simp at hi, fun i _ hi => by simp at hi⟩
    · refine ⟨r' :: rest, y, by simp [insN, placed_end r' lt], rowsInc_cons hr h1.1 hi.tail, isTab_cons.mpr ⟨inc_of ⟨hr, h1.1⟩, fun hne => ⟨by omega, fun i hi' => ?_⟩, t3⟩, ?_, r'.length, by simp, by simp, fun i hi' => ?_, fun i h2 h3 => ?_⟩
      · have := (t2 hne).2 i hi'
        rwa [getD_app, if_neg (by omega), if_pos (by omega)] at this
      · rw [List.flatten_cons, List.flatten_cons, List.append_assoc]
        exact List.perm_middle.symm
      · have hi' : i < r'.length := hi'
        show (r' ++ [y]).getD i 0 ≤ r'.getD i 0
        rw [getD_app, if_neg (by omega), if_pos hi']
        exact Int.le_refl _
      · have h3 : i < r'.length := h3
        omega
  | r :: rest, k + 1, hi, ht, nd, hk, hc => by
    obtain ⟨h0, h1⟩ := hi r List.mem_cons_self
    obtain ⟨t1, t2, t3⟩ := isTab_cons.mp ht
    have nd' := nd
    rw [List.flatten_cons, List.nodup_append] at nd'
    have hk' : k < rest.length := by simpa using hk
    obtain ⟨T1, m, u⟩ := unins rest k hi.tail t3 nd'.2.1 hk' (by simpa using hc)
    obtain ⟨q1, g1, g2, g3, g4⟩ := u.hd
    have hne : rest ≠ [] := by intro e; subst e; simp at hk'
    have ad := t2 hne
    have hq := lt_of_get g1
    have hm : m ∈ rest.flatten := u.pf.mem_iff.mp List.mem_cons_self
    have hmr : m ∉ r := fun h => nd'.2.2 m h m hm rfl
    have gm : (rest.headD []).getD q1 0 = m := by rw [List.getD_eq_getElem?_getD, g1]; rfl
    have a1 := ad.2 q1 hq
    rw [gm] at a1
    have hql : q1 < r.length := Nat.lt_of_lt_of_le hq ad.1
    obtain ⟨a, y, b, rfl, hy, hb⟩ := split_below h1 hmr ⟨_, List.mem_of_getElem? (getD_int hql), a1⟩
    have hqa : q1 ≤ a.length := by
      refine Decidable.byContradiction fun hh => ?_
      have : (a ++ y :: b).getD q1 0 ∈ b := by
        have e := getD_int hql
        rw [List.getElem?_append_right (by omega), show q1 - a.length = (q1 - a.length - 1) + 1 from by omega, List.getElem?_cons_succ] at e
        exact List.mem_of_getElem? e
      have := hb _ this
      omega
    have h1' := h1
    rw [List.pairwise_append, List.pairwise_cons] at h1'
    have lt : ∀ x ∈ a, x < y := fun x hx => h1'.2.2 x hx y List.mem_cons_self
    have pw : (a ++ m :: b).Pairwise (· < ·) := by
      rw [List.pairwise_append, List.pairwise_cons]
      refine ⟨h1'.1, ⟨hb, h1'.2.1.2⟩, fun x hx z hz => ?_⟩
      rcases List.mem_cons.mp hz with rfl | hz
      · have := lt x hx; omega
      · exact h1'.2.2 x hx z (List.mem_cons_of_mem _ hz)
    refine ⟨(a ++ m :: b) :: T1, y, ?_, rowsInc_cons (by simp) pw u.pr, isTab_cons.mpr ⟨inc_of ⟨by simp, pw⟩, fun _ => ⟨?_, fun i hi' => ?_⟩, u.tb⟩, ?_, a.length, by simp, by simp, fun i hi' => ?_, fun i h2 h3 => ?_⟩
    · have e1 := placed_back hy b a lt
      have e2 := u.ins
      simp [insN, e1, e2]
    · have := ad.1
      simp at this g2 ⊢
      omega
    · rw [getD_mid a b y m i]
      by_cases hia : i = a.length
      · rw [if_pos hia]
        exact g4 i (by omega) hi'
      · rw [if_neg hia]
        have := ad.2 i (by omega)
        have := g3 i hi'
        omega
    · rw [List.flatten_cons, List.flatten_cons]
      have p1 : (a ++ m :: b ++ T1.flatten).Perm (a ++ b ++ (m :: T1.flatten)) := by
        rw [List.append_assoc, List.append_assoc, List.cons_append]
        exact List.perm_middle.symm.append_left a
      have p2 : (a ++ y :: b ++ rest.flatten).Perm (y :: (a ++ b ++ rest.flatten)) := by
        rw [List.append_assoc, List.append_assoc, List.cons_append]
        exact List.perm_middle
      exact ((p1.trans (u.pf.append_left _)).cons y).trans p2.symm
    · have hi' : i < (a ++ m :: b).length := hi'
      show (a ++ y :: b).getD i 0 ≤ (a ++ m :: b).getD i 0
      rw [getD_mid a b y m i]
      by_cases hia : i = a.length
      · rw [if_pos hia, hia]
        have : (a ++ y :: b).getD a.length 0 = y := by rw [List.getD_eq_getElem?_getD]; simp
        rw [this]
        omega
      · rw [if_neg hia]
        exact Int.le_refl _
    · have h3 : i < (a ++ m :: b).length := h3
      show y < (a ++ m :: b).getD i 0
      by_cases hia : i = a.length
      · rw [getD_mid a b y m i, if_pos hia]
        exact hy
      · have h4 := pw_get pw (show a.length < i by omega) h3
        have : (a ++ m :: b).getD a.length 0 = m := by rw [List.getD_eq_getElem?_getD]; simp
        rw [this] at h4
        omega
structure UnS (S Q : List (List Int)) (X : Int) (k : Nat) : Prop where
  sec : secR S k X = Q
  kl : k ≤ S.length
  pr : RowsInc S
  tb : IsTab S
  lt : ∀ z ∈ S.flatten, z < X
  cor : (Q.getD (k + 1) []).length < (Q.getD k []).length
  kq : k < Q.length
  hd : ∃ w, Q.headD [] = S.headD [] ++ w
theorem unsec : ∀ (Q : List (List Int)), RowsInc Q → IsTab Q → Q.flatten.Nodup → Q ≠ [] → ∃ (S : List (List Int)) (k : Nat) (X : Int), UnS S Q X k
  | [], _, _, _, h => absurd rfl h
  | r :: rest, hi, ht, nd, _ => by
    obtain ⟨h0, h1⟩ := hi r List.mem_cons_self
    obtain ⟨t1, t2, t3⟩ := isTab_cons.mp ht
    rw [List.flatten_cons, List.nodup_append] at nd
    obtain ⟨r', x0, rfl⟩ := last_of h0
    have h1' := List.pairwise_append.mp h1
    have lt : ∀ x ∈ r', x < x0 := fun x hx => h1'.2.2 x hx x0 (by simp)
    by_cases big : ∀ z ∈ rest.flatten, z < x0
    · have hl : (rest.headD []).length ≤ r'.length := by
        cases rest with
        | nil => simp
        | cons s t =>
          have ad := t2 (by simp)
          have a1 : s.length ≤ (r' ++ [x0]).length := ad.1
          rw [List.length_append, List.length_singleton] at a1
          show s.length ≤ r'.length
          refine Decidable.byContradiction fun hh => ?_
          have a2 : (r' ++ [x0]).getD r'.length 0 < s.getD r'.length 0 := ad.2 r'.length (by show r'.length < s.length; omega)
          rw [getD_app, if_pos rfl] at a2
          have := big _ (List.mem_flatten.mpr ⟨s, List.mem_cons_self, List.mem_of_getElem? (getD_int (show r'.length < s.length by omega))⟩)
          omega
      by_cases hr : r' = []
      · subst hr
        have : rest = [] := head_nil hi.tail (by simpa using hl)
        subst this
        exact ⟨[], 0, x0, rfl, by simp, rowsInc_nil, isTab_nil, fun z hz => by simp at hz, by simp, by simp, [x0], rfl⟩
      · refine ⟨r' :: rest, 0, x0, rfl, by simp, rowsInc_cons hr h1'.1 hi.tail, isTab_cons.mpr ⟨inc_of ⟨hr, h1'.1⟩, fun hne => ⟨hl, fun i hi' => ?_⟩, t3⟩, fun z hz => ?_, ?_, by simp, [x0], rfl⟩
        · have := (t2 hne).2 i hi'
          rwa [getD_app, if_neg (by omega), if_pos (by omega)] at this
        · rw [List.flatten_cons] at hz
          rcases List.mem_append.mp hz with hz | hz
          · exact lt z hz
          · exact big z hz
        · rw [getD1]
          show (rest.headD []).length < (r' ++ [x0]).length
          rw [List.length_append, List.length_singleton]
          omega
    · have hne : rest ≠ [] := fun e => big (by subst e; intro z hz; simp at hz)
      obtain ⟨S1, k1, X1, u⟩ := unsec rest hi.tail t3 nd.2.1 hne
      have pf : rest.flatten.Perm (X1 :: S1.flatten) := by
        have := (sec_keeps S1 k1 X1 u.pr u.lt).2.1
        rwa [u.sec] at this
      have le : ∀ z ∈ rest.flatten, z ≤ X1 := fun z hz => by
        rcases List.mem_cons.mp (pf.mem_iff.mp hz) with rfl | hz
        · exact Int.le_refl _
        · exact Int.le_of_lt (u.lt z hz)
      have hx1 : X1 ∈ rest.flatten := pf.mem_iff.mpr List.mem_cons_self
      have ne : x0 ≠ X1 := nd.2.2 x0 (by simp) X1 hx1
      have lt1 : x0 < X1 := by
        refine Decidable.byContradiction fun hh => big fun z hz => ?_
        have := le z hz
        omega
      obtain ⟨w, hw⟩ := u.hd
      have ad := t2 hne
      rw [hw] at ad
      refine ⟨(r' ++ [x0]) :: S1, k1 + 1, X1, ?_, by simpa using u.kl, rowsInc_cons h0 h1 u.pr, isTab_cons.mpr ⟨t1, fun _ => ⟨?_, fun i hi' => ?_⟩, u.tb⟩, fun z hz => ?_, by simpa using u.cor, by simpa using u.kq, [], by simp⟩
      · show (r' ++ [x0]) :: secR S1 k1 X1 = _
        rw [u.sec]
      · have := ad.1
        rw [List.length_append] at this
        omega
      · have := ad.2 i (by rw [List.length_append]; omega)
        have e : (S1.headD [] ++ w).getD i 0 = (S1.headD []).getD i 0 := by
          rw [List.getD_eq_getElem?_getD, List.getD_eq_getElem?_getD, List.getElem?_append_left hi']
        rwa [e] at this
      · rw [List.flatten_cons] at hz
        rcases List.mem_append.mp hz with hz | hz
        · rcases List.mem_append.mp hz with hz | hz
          · have := lt z hz; omega
          · rw [List.mem_singleton.mp hz]; exact lt1
        · exact u.lt z hz
theorem addL_inj : ∀ {ls ms : List Nat} {k : Nat}, (∀ l ∈ ls, 0 < l) → (∀ m ∈ ms, 0 < m) → k ≤ ls.length → k ≤ ms.length → addL ls k = addL ms k → ls = ms
  | [], [], _, _, _, _, _, _ => rfl
  | [], m :: ms, k, _, hm, hk, _, h => by
    have : k = 0 := by simpa using hk
    subst this
    have h : [1] = (m + 1) :: ms := h
    have := (List.cons.inj h).1
    have := hm m List.mem_cons_self
    omega
  | l :: ls, [], k, hl, _, _, hk, h => by
    have : k = 0 := by simpa using hk
    subst this
    have h : (l + 1) :: ls = [1] := h
    have := (List.cons.inj h).1
    have := hl l List.mem_cons_self
    omega
  | l :: ls, m :: ms, 0, _, _, _, _, h => by
    have h : (l + 1) :: ls = (m + 1) :: ms := h
    obtain ⟨a, b⟩ := List.cons.inj h
    have : l = m := by omega
    rw [this, b]
  | l :: ls, m :: ms, k + 1, hl, hm, h1, h2, h => by
    have h : l :: addL ls k = m :: addL ms k := h
    obtain ⟨a, b⟩ := List.cons.inj h
    rw [a, addL_inj (fun x hx => hl x (List.mem_cons_of_mem _ hx)) (fun x hx => hm x (List.mem_cons_of_mem _ hx)) (by simpa using h1) (by simpa using h2) b]
theorem lens_pos {t : List (List Int)} (h : RowsInc t) : ∀ l ∈ t.map List.length, 0 < l := fun l hl => by
  obtain ⟨r, hr, rfl⟩ := List.mem_map.mp hl
  exact List.length_pos_iff.mpr (h r hr).1
theorem tab_make : ∀ (n : Nat) (P Q : List (List Int)), P.flatten.length = n → RowsInc P → RowsInc Q → IsTab P → IsTab Q → P.flatten.Nodup → Q.flatten.Nodup → P.map List.length = Q.map List.length → ∃ qs, PtsOk qs ∧ tabN qs = (P, Q)
  | 0, P, Q, h, hP, _, _, _, _, _, hs => by
    have : P = [] := by
      cases P with
      | nil => rfl
      | cons r t =>
        have h0 := (hP r List.mem_cons_self).1
        rw [List.flatten_cons, List.length_append] at h
        exact absurd (List.eq_nil_of_length_eq_zero (by omega)) h0
    subst this
    have : Q = [] := by simpa using hs.symm
    subst this
    exact ⟨[], ⟨.nil, by simp⟩, rfl⟩
  | n + 1, P, Q, h, hP, hQ, tP, tQ, nP, nQ, hs => by
    have hne : Q ≠ [] := fun e => by
      subst e
      have : P = [] := by simpa using hs
      subst this
      simp at h
    obtain ⟨S, k, X, u⟩ := unsec Q hQ tQ nQ hne
    have hl : P.length = Q.length := by have := congrArg List.length hs; simpa using this
    have cor : (P.getD (k + 1) []).length < (P.getD k []).length := by
      have := u.cor
      rwa [getD_len, getD_len, ← hs, ← getD_len, ← getD_len] at this
    obtain ⟨T, y, v⟩ := unins P k hP tP nP (by rw [hl]; exact u.kq) cor
    have ndT := v.pf.symm.nodup nP
    rw [List.nodup_cons] at ndT
    have hk : k ≤ T.length := by have := insN_le T y; rwa [v.ins] at this
    have lP := (ins_keeps T y v.pr ndT.2 ndT.1).2.2
    obtain ⟨_, sf, lQ⟩ := sec_keeps S k X u.pr u.lt
    rw [v.ins] at lP
    rw [u.sec] at lQ sf
    have lP : P.map List.length = addL (T.map List.length) k := lP
    have sTS : T.map List.length = S.map List.length := addL_inj (lens_pos v.pr) (lens_pos u.pr) (by simpa using hk) (by simpa using u.kl) (by rw [← lP, ← lQ, hs])
    have ndS := sf.nodup nQ
    rw [List.nodup_cons] at ndS
    have len : T.flatten.length = n := by
      have := v.pf.length_eq
      rw [List.length_cons] at this
      omega
    obtain ⟨qs, ok, e⟩ := tab_make n T S len v.pr u.pr v.tb u.tb ndT.2 ndS.2 sTS
    have ti := (tab_all ok).1
    rw [e] at ti
    refine ⟨qs ++ [(X, y)], ⟨?_, ?_⟩, ?_⟩
    · refine List.pairwise_append.mpr ⟨ok.xs, by simp, fun p hp q hq => ?_⟩
      rw [List.mem_singleton.mp hq]
      exact u.lt _ (ti.qf.mem_iff.mpr (List.mem_map.mpr ⟨p, hp, rfl⟩))
    · rw [List.map_append, List.nodup_append]
      refine ⟨ok.ys, by simp, fun a ha b hb => ?_⟩
      have hb : b = y := by simpa using hb
      subst hb
      exact fun e => ndT.1 (e ▸ ti.pf.mem_iff.mpr ha)
    · unfold tabN at e ⊢
      rw [List.foldl_append, e]
      show tabStep (T, S) (X, y) = (P, Q)
      have e1 : (tabStep (T, S) (X, y)).1 = P := by show (insN T y).1 = P; rw [v.ins]
      have e2 : (tabStep (T, S) (X, y)).2 = Q := by
        show secN S (insN T y).2 X = Q
        rw [v.ins]
        show secN S k X = Q
        rw [secN_eq S k X u.kl, u.sec]
      exact Prod.ext e1 e2

end My
namespace My
open PySem PySem.Spec PyProof.Rows L2 TL
open PyData (strOk)
/-! ### tables with other numbers -/
def renN (told nums : List Int) (t : List (List Int)) : List (List Int) := t.map fun r => r.map fun x => nums.getD (told.idxOf x) 0
def pRen : Prom := fun cs Q => ∃ (t : List (List Int)) (nums : List Int), cs = [.sh (eT t), .sh (eI nums)] ∧ t.length ≤ 900 ∧ t.flatten.length ≤ 900 ∧ (∀ r ∈ t, r.length ≤ 900) ∧ t.flatten.length ≤ nums.length ∧ ∀ told, told.Perm t.flatten → (told.Pairwise (· ≤ ·)) → Q (eT (renN told nums t))
abbrev s_law_renamed : Stmt := topS 16
theorem sc_law_renamed : FnScope ["table", "numbers", "told", "row", "number"] ["table", "numbers"] (defScope s_law_renamed) := ⟨rfl, rfl, rfl, by decide +kernel, rfl, by decide +kernel, by decide +kernel⟩
section
variable {P : Program} {w : World} {K : Fg} {mg : Str → Option Value} {base : Heap}
theorem idx_min {x : Int} : ∀ {l : List Int} {j : Nat}, l[j]? = some x → l.idxOf x ≤ j
  | [], j, h => by simp at h
  | y :: l, 0, h => by
    simp at h
    subst h
    simp
  | y :: l, j + 1, h => by
    have ih := idx_min (l := l) (j := j) (by simpa using h)
    by_cases e : y = x
    · subst e; simp
    · have hb : (y == x) = false := by simpa using e
      rw [List.idxOf_cons, hb]
      show List.idxOf x l + 1 ≤ j + 1
      omega
theorem ok_ren (D : Df K mg "_law_renamed" s_law_renamed ["table", "numbers"]) (m_sorted : mg "sorted" = none) : Cal P w K mg base "_law_renamed" 1 ["table", "numbers"] pRen := by
  have nd := sc_law_renamed.nd
  refine cal_ok D sc_law_renamed (fun cs Q ⟨t, nums, h, _⟩ => by rw [h]; rfl) (fun f cdv A outer s H E hr => ⟨_, by
  have hu65 := Room.units65 hr
  exact
(vss_cons (vs_set (n := 2) nd rfl (vc_lst vl_nil))
    (vss_cons (vs_for (vi_seq (vc_var (pv 0))) (vn_name (n := 3) nd rfl).vg
      (vss_one (vs_set (n := 2) nd rfl (vc_add (se_var (pv 2)) (se_var (pv 3))))))
    (vss_cons (vs_set (n := 2) nd rfl (vc_sortI (se_var (pv 2)) (by rfl) m_sorted))
    (vss_one (vs_ret (vc_lc (own := [("row", 3)]) nd (vj_seq (se_var (pv 0))) (blk_ok (N := ["table", "numbers", "told", "row", "number"]) (sc := defScope s_law_renamed) (by decide +kernel)) (fun _ _ _ _ _ => (vn_name (n := 3) nd rfl)) (fun _ _ _ _ _ => vts_nil) (fun _ _ _ _ _ => (vc_lc (own := [("number", 4)]) nd (vj_seq (se_var (pv 3))) (blk_ok (N := ["table", "numbers", "told", "row", "number"]) (sc := relS _ (defScope s_law_renamed)) (by decide +kernel)) (fun _ _ _ _ _ => (vn_name (n := 4) nd rfl)) (fun _ _ _ _ _ => vts_nil) (fun _ _ _ _ _ => (vc_ix (se_var (pv 1)) (vc_index hu65 (se_var (pv 2)) (se_var (pv 4))).se))))))))))
    , fun cs Q ⟨t, nums, hc, hl, hf, hr, hn, q⟩ => ?_⟩)
  subst hc
  refine ⟨sz (by simp), fun i ρ => ∃ c3 c4, ρ = [.sh (eT t), .sh (eI nums), .ol ((t.take i).flatten.map .int), c3, c4], ⟨_, _, rfl⟩, fun i x ρ hx ⟨c3, c4, hρ⟩ => ?_, fun ρ ⟨c3, c4, hρ⟩ => ?_⟩
  · subst hρ
    obtain ⟨r, hz, rfl⟩ := map_get hx
    have hi := lt_of_get hz
    have e : (t.take (i + 1)).flatten = (t.take i).flatten ++ r := by rw [List.take_add_one, hz, List.flatten_append]; simp
    have hle : ((t.take (i + 1)).flatten).length ≤ 900 := by
      have h1 : t.flatten = (t.take (i + 1)).flatten ++ (t.drop (i + 1)).flatten := by rw [← List.flatten_append, List.take_append_drop]
      have h2 := congrArg List.length h1
      rw [List.length_append] at h2
      omega
    rw [e, List.length_append] at hle
    refine ⟨by rw [List.length_map, List.length_map]; exact sz (by omega), .sh (eI r), c4, ?_⟩
    rw [e, List.map_append]
    rfl
  · subst hρ
    rw [List.length_map, List.take_length]
    refine ⟨t.flatten, rfl, fun told hp hs => ?_⟩
    have q := q told hp hs
    have tl := hp.length_eq
    refine ⟨sz (by rw [List.length_map]; omega), lc_all eI (fun r => eI (r.map fun x => nums.getD (told.idxOf x) 0)) t rfl (fun r hrm k1 k2 h1 => ?_) ?_⟩
    · refine ⟨sz (by rw [List.length_map]; have := hr r hrm; omega), lc_all .int (fun x => .int (nums.getD (told.idxOf x) 0)) r rfl (fun x hx k1 k2 h1 => ?_) ?_⟩
      · have hm : x ∈ told := hp.mem_iff.mpr (List.mem_flatten.mpr ⟨r, hrm, hx⟩)
        have g := idx_get hm
        have lt := lt_of_get g
        refine ⟨told.map .int, rfl, .int x, told.idxOf x, .int x, rfl, shaped_of (lay_I told) (Nat.le_trans (dep_I told) (by decide)), rfl, by rw [List.getElem?_map, g]; rfl, by rw [eqv_int]; exact decide_eq_true rfl, fun j y hj hy => ?_, ?_⟩
        · obtain ⟨w, hw, rfl⟩ := map_get hy
          rw [eqv_int]
          refine decide_eq_false fun e => ?_
          subst e
          have := idx_min hw
          omega
        refine ⟨_, at_int (by omega), h1⟩
      · have e1 : (r.map fun x => PyData.int (nums.getD (told.idxOf x) 0)) = (r.map fun x => nums.getD (told.idxOf x) 0).map .int := by rw [List.map_map]; rfl
        rw [e1]
        exact h1
    · have e1 : (t.map fun r => eI (r.map fun x => nums.getD (told.idxOf x) 0)) = (renN told nums t).map eI := by unfold renN; rw [List.map_map]; rfl
      rw [e1]
      exact q
end

/-! ### what renaming keeps -/
theorem map_getD {f : Int → Int} {r : List Int} {i : Nat} (h : i < r.length) : (r.map f).getD i 0 = f (r.getD i 0) := by
  rw [List.getD_eq_getElem?_getD, List.getD_eq_getElem?_getD, List.getElem?_map, List.getElem?_eq_getElem h]
  rfl
theorem mapT_getD (f : Int → Int) (t : List (List Int)) (k : Nat) : (t.map fun r => r.map f).getD k [] = (t.getD k []).map f := by
  rw [List.getD_eq_getElem?_getD, List.getD_eq_getElem?_getD, List.getElem?_map]
  cases t[k]? <;> rfl
theorem map_flat (f : Int → Int) : ∀ t : List (List Int), (t.map fun r => r.map f).flatten = t.flatten.map f
  | [] => rfl
  | r :: t => by
    rw [List.map_cons, List.flatten_cons, List.flatten_cons, List.map_append, map_flat f t]
structure RenOk (t t' : List (List Int)) : Prop where
  pr : RowsInc t'
  tb : IsTab t'
  sh : t'.map List.length = t.map List.length
  nd : t'.flatten.Nodup
theorem ren_ok {f : Int → Int} {t : List (List Int)} (hf : ∀ x ∈ t.flatten, ∀ y ∈ t.flatten, x < y → f x < f y) (hi : RowsInc t) (ht : IsTab t) (nd : t.flatten.Nodup) : RenOk t (t.map fun r => r.map f) := by
  have mf : ∀ {r x}, r ∈ t → x ∈ r → x ∈ t.flatten := fun hr hx => List.mem_flatten.mpr ⟨_, hr, hx⟩
  have pr : RowsInc (t.map fun r => r.map f) := fun r' hr' => by
    obtain ⟨r, hr, rfl⟩ := List.mem_map.mp hr'
    obtain ⟨h1, h2⟩ := hi r hr
    refine ⟨by simpa using h1, ?_⟩
    rw [List.pairwise_map]
    exact h2.imp_of_mem fun {a b} ha hb h => hf a (mf hr ha) b (mf hr hb) h
  refine ⟨pr, ⟨fun r' hr' => inc_of (pr r' hr'), fun k hk => ?_⟩, by rw [List.map_map]; apply List.map_congr_left; intro r _; simp, ?_⟩
  · rw [List.length_map] at hk
    have ad := ht.2 k hk
    rw [mapT_getD, mapT_getD]
    have m1 : t.getD k [] ∈ t := List.mem_of_getElem? (getD_row (by omega))
    have m2 : t.getD (k + 1) [] ∈ t := List.mem_of_getElem? (getD_row hk)
    refine ⟨by simpa using ad.1, fun i hi' => ?_⟩
    rw [List.length_map] at hi'
    have h1 : i < (t.getD k []).length := Nat.lt_of_lt_of_le hi' ad.1
    rw [map_getD h1, map_getD hi']
    exact hf _ (mf m1 (List.mem_of_getElem? (getD_int h1))) _ (mf m2 (List.mem_of_getElem? (getD_int hi'))) (ad.2 i hi')
  · rw [map_flat, List.Nodup, List.pairwise_map]
    refine List.Pairwise.imp_of_mem (fun {a b} ha hb h e => ?_) nd
    by_cases c : a < b
    · have := hf a ha b hb c; omega
    · have := hf b hb a ha (by omega); omega
theorem idx_lt {l : List Int} (h : l.Pairwise (· ≤ ·)) {x y : Int} (hx : x ∈ l) (hy : y ∈ l) (hlt : x < y) : l.idxOf x < l.idxOf y := by
  have g1 := idx_get hx
  have g2 := idx_get hy
  refine Decidable.byContradiction fun hh => ?_
  have l1 := lt_of_get g1
  have l2 := lt_of_get g2
  by_cases e : l.idxOf y = l.idxOf x
  · rw [e, g1] at g2
    cases g2
    omega
  · have := List.pairwise_iff_getElem.mp h _ _ l2 l1 (by omega)
    rw [List.getElem?_eq_getElem l1] at g1
    rw [List.getElem?_eq_getElem l2] at g2
    have g1 := Option.some.inj g1
    have g2 := Option.some.inj g2
    omega
theorem renN_ok {t : List (List Int)} {told nums : List Int} (hi : RowsInc t) (ht : IsTab t) (nd : t.flatten.Nodup) (hp : told.Perm t.flatten) (hs : told.Pairwise (· ≤ ·)) (hn : nums.Pairwise (· < ·)) (hl : t.flatten.length ≤ nums.length) : RenOk t (renN told nums t) := by
  refine ren_ok (f := fun x => nums.getD (told.idxOf x) 0) (fun x hx y hy h => ?_) hi ht nd
  have h1 := idx_lt hs (hp.mem_iff.mpr hx) (hp.mem_iff.mpr hy) h
  have h2 := lt_of_get (idx_get (hp.mem_iff.mpr hy))
  have h3 := hp.length_eq
  exact pw_get hn h1 (by omega)
theorem map_idx : ∀ {l m : List Int}, l.Nodup → l.length = m.length → (l.map fun x => m.getD (l.idxOf x) 0) = m := by
  intro l m nd hl
  apply List.ext_getElem (by simpa using hl)
  intro i h1 h2
  rw [List.length_map] at h1
  rw [List.getElem_map]
  have g := idx_get (List.getElem_mem h1)
  have e : l.idxOf l[i] = i := by
    have l1 := lt_of_get g
    refine Decidable.byContradiction fun hh => ?_
    rw [List.getElem?_eq_getElem l1] at g
    cases g' : (Nat.lt_or_gt_of_ne hh) with
    | inl h => 
      have := List.pairwise_iff_getElem.mp nd _ _ l1 h1 h
      exact this (Option.some.inj g)
    | inr h =>
      have := List.pairwise_iff_getElem.mp nd _ _ h1 l1 h
      exact this (Option.some.inj g).symm
  rw [e, List.getD_eq_getElem?_getD, List.getElem?_eq_getElem h2]
  rfl
theorem renN_perm {t : List (List Int)} {told nums : List Int} (nd : t.flatten.Nodup) (hp : told.Perm t.flatten) (hl : t.flatten.length = nums.length) : (renN told nums t).flatten.Perm nums := by
  unfold renN
  rw [map_flat]
  have h1 : (told.map fun x => nums.getD (told.idxOf x) 0) = nums := map_idx (hp.symm.nodup nd) (by rw [hp.length_eq]; exact hl)
  conv => rhs; rw [← h1]
  exact (hp.map _).symm
/-! ### mirrors -/
theorem conj_col {ls : List Nat} {t : List (List Int)} (h : t.map List.length = ls) (hne : ∀ l ∈ ls, 0 < l) : colN (shapeN t) = (conjL ls).map fun n : Nat => (n : Int) := by
  subst h
  cases t with
  | nil => rfl
  | cons r t =>
    unfold colN shapeN conjL
    rw [List.map_cons, List.map_cons]
    show (List.range ((r.length : Int)).toNat).map _ = (List.map _ (List.range r.length)).map _
    rw [List.map_map, Int.toNat_natCast]
    apply List.map_congr_left
    intro i _
    show colAt ((r.length : Int) :: t.map fun r => (r.length : Int)) i = ((colL (r.length :: t.map List.length) i : Nat) : Int)
    unfold colAt colL
    have e : ((r.length : Int) :: t.map fun r => (r.length : Int)) = (r.length :: t.map List.length).map fun n : Nat => (n : Int) := by simp
    rw [e, List.filter_map, List.length_map]
    congr 2
    apply List.filter_congr
    intro l _
    simp
theorem shape_eq {t : List (List Int)} {ls : List Nat} (h : t.map List.length = ls) : shapeN t = ls.map fun n : Nat => (n : Int) := by
  subst h
  unfold shapeN
  rw [List.map_map]
  rfl
theorem shape_inj {t s : List (List Int)} (h : shapeN t = shapeN s) : t.map List.length = s.map List.length := by
  have h1 := congrArg (List.map Int.toNat) h
  unfold shapeN at h1
  rw [List.map_map, List.map_map] at h1
  exact h1
def mirX (p : Int × Int) : Int × Int := (-p.1, p.2)
def mirY (p : Int × Int) : Int × Int := (p.1, -p.2)
def mirB (p : Int × Int) : Int × Int := (-p.1, -p.2)
theorem mirX_ok {qs : List (Int × Int)} (ok : PtsOk qs) : PtsOk (qs.map mirX).reverse := ⟨by
  rw [List.pairwise_reverse, List.pairwise_map]
  exact ok.xs.imp fun {a b} h => by show -b.1 < -a.1; omega, by
  rw [List.map_reverse, List.map_map]
  exact (List.reverse_perm _).symm.nodup ok.ys⟩
theorem neg_nd {w : List Int} (h : w.Nodup) : (w.map fun y => -y).Nodup := by
  rw [List.Nodup, List.pairwise_map]
  exact List.Pairwise.imp (fun {a b} h e => h (by omega)) h
theorem mirY_ok {qs : List (Int × Int)} (ok : PtsOk qs) : PtsOk (qs.map mirY) := ⟨by
  rw [List.pairwise_map]
  exact ok.xs, by
  have := neg_nd ok.ys
  rw [List.map_map] at this ⊢
  exact this⟩
theorem mirB_ok {qs : List (Int × Int)} (ok : PtsOk qs) : PtsOk (qs.map mirB).reverse := by
  have := mirX_ok (mirY_ok ok)
  rw [List.map_map] at this
  exact this
theorem shp_X {qs : List (Int × Int)} (ok : PtsOk qs) : shp (qs.map mirX).reverse = conjL (shp qs) := shp_turn ok (mirX_ok ok) fun k n => by
  rw [List.map_reverse, List.map_map]
  exact turn_iff
theorem shp_Y {qs : List (Int × Int)} (ok : PtsOk qs) : shp (qs.map mirY) = conjL (shp qs) := shp_turn ok (mirY_ok ok) fun k n => by
  have : (qs.map mirY).map (·.2) = (qs.map (·.2)).map fun y => -y := by rw [List.map_map, List.map_map]; rfl
  rw [this]
  exact neg_iff
theorem inc_turn {k n : Nat} {w : List Int} : Can (· < ·) k w n ↔ Can (· > ·) k w.reverse n := by
  have := turn_iff (k := k) (n := n) (w := w.reverse)
  rw [List.reverse_reverse] at this
  exact this.symm
theorem shp_B {qs : List (Int × Int)} (ok : PtsOk qs) : shp (qs.map mirB).reverse = shp qs := shp_same ok (mirB_ok ok) fun k n => by
  have : (qs.map mirB).reverse.map (·.2) = ((qs.map (·.2)).reverse).map fun y => -y := by rw [List.map_reverse, List.map_map, List.map_reverse, List.map_map]; rfl
  rw [this]
  exact inc_turn.trans neg_iff

end My
namespace My
open PySem PySem.Spec PyProof.Rows L2 TL
open PyData (strOk)
/-! ### the law k97 -/
theorem lay_T (t : List (List Int)) : (eT t).canLay0 = true := by
  rw [PyData.canLay0]
  exact lay_all fun d hd => by obtain ⟨r, _, rfl⟩ := List.mem_map.mp hd; exact lay_I r
theorem dep_T (t : List (List Int)) : (eT t).depth ≤ 4 := by
  rw [PyData.depth]
  have : PyData.depthAll (t.map eI) ≤ 3 := dep_all fun d hd => by obtain ⟨r, _, rfl⟩ := List.mem_map.mp hd; exact dep_I r
  omega
theorem dep_I2 (r : List Int) : (eI r).depth ≤ 1 := by
  rw [PyData.depth]
  have : PyData.depthAll (r.map PyData.int) ≤ 0 := dep_all fun d hd => by
    obtain ⟨p, _, rfl⟩ := List.mem_map.mp hd
    exact Nat.le_refl 0
  omega
theorem dep_T2 (t : List (List Int)) : (eT t).depth ≤ 2 := by
  rw [PyData.depth]
  have : PyData.depthAll (t.map eI) ≤ 1 := dep_all fun d hd => by obtain ⟨r, _, rfl⟩ := List.mem_map.mp hd; exact dep_I2 r
  omega
theorem nb_I (r : List Int) : nb (eI r) = true := by
  show nbAll _ = true
  exact nbAll_mem fun d hd => by obtain ⟨p, _, rfl⟩ := List.mem_map.mp hd; rfl
theorem nb_T (t : List (List Int)) : nb (eT t) = true := by
  show nbAll _ = true
  exact nbAll_mem fun d hd => by obtain ⟨p, _, rfl⟩ := List.mem_map.mp hd; exact nb_I p
theorem lay_P (ps : List (Int × Int)) : (PyData.list (ps.map eP)).canLay0 = true := by
  rw [PyData.canLay0]
  exact lay_all fun d hd => by obtain ⟨r, _, rfl⟩ := List.mem_map.mp hd; simp [PyData.canLay0, PyData.canLayAll0]
theorem dep_P (ps : List (Int × Int)) : (PyData.list (ps.map eP)).depth ≤ 3 := by
  rw [PyData.depth]
  have : PyData.depthAll (ps.map eP) ≤ 2 := dep_all fun d hd => by obtain ⟨r, _, rfl⟩ := List.mem_map.mp hd; simp [PyData.depth, PyData.depthAll]
  omega
theorem lc_pair {α β : Type} {g : VG'} {tt : TB} {te : TC} {ρ : List C} (f : α → D) (h : β → D) (R : α → β → Prop) : ∀ (xs : List α) {ds : List D} {k : List D → Prop}, ds = xs.map f →
    (∀ a ∈ xs, ∀ (k1 : D → Prop) (k2 : Prop), (∀ b, R a b → k1 (h b)) → g (f a) ρ fun ρ1 => tt ρ1 fun b => if b = true then te ρ1 fun c => fz c k1 else k2) →
    (∀ ys : List β, ys.length = xs.length → (∀ (i : Nat) a b, xs[i]? = some a → ys[i]? = some b → R a b) → k (ys.map h)) → lcRun g tt te ρ ds k
  | [], _, k, e, _, q => by subst e; exact q [] rfl (fun i a b h => by simp at h)
  | a :: xs, _, k, e, st, q => by
    subst e
    refine st a List.mem_cons_self _ _ (fun b hb => ?_)
    refine lc_pair f h R xs rfl (fun b m => st b (List.mem_cons_of_mem _ m)) (fun ys hl hr => ?_)
    refine q (b :: ys) (by simp [hl]) (fun i a' b' ha hb' => ?_)
    cases i with
    | zero => simp at ha hb'; subst ha; subst hb'; exact hb
    | succ i => exact hr i a' b' (by simpa using ha) (by simpa using hb')
theorem drawn_asc {n : Nat} {ns : List Int} (hl : ns.length = n) (h : ∀ (i a : Nat) (b : Int), (List.range n)[i]? = some a → ns[i]? = some b → 3 * (a : Int) ≤ b ∧ b < 3 * (a : Int) + 3) : ns.Pairwise (· < ·) := by
  rw [List.pairwise_iff_getElem]
  intro i j hi hj hij
  have h1 := h i i _ (by rw [List.getElem?_range (by omega)]) (List.getElem?_eq_getElem hi)
  have h2 := h j j _ (by rw [List.getElem?_range (by omega)]) (List.getElem?_eq_getElem hj)
  omega
theorem sh_TT (A B : List (List Int)) : SeqAt.shaped (.tuple [eT A, eT B]) = true := by
  have a := lay_T A
  have b := lay_T B
  have c := dep_T2 A
  have d := dep_T2 B
  refine shaped_of ?_ ?_
  · simp only [PyData.canLay0, PyData.canLayAll0] at a b ⊢
    simp [a, b]
  · simp only [PyData.depth, PyData.depthAll] at c d ⊢
    omega
theorem sh_I (r : List Int) : SeqAt.shaped (eI r) = true := shaped_of (lay_I r) (Nat.le_trans (dep_I r) (by decide))
theorem ev_TT (A B : List (List Int)) : PyData.eqv (.tuple [eT A, eT B]) (.tuple [eT A, eT B]) = true := nb_refl (by
  show (nb (eT A) && (nb (eT B) && true)) = true
  rw [nb_T, nb_T]
  rfl)
structure TLen (es : List (Int × Int)) : Prop where
  l1 : (tabN es).1.length ≤ es.length
  l2 : (tabN es).2.length ≤ es.length
  r1 : ∀ r ∈ (tabN es).1, r.length ≤ es.length
  r2 : ∀ r ∈ (tabN es).2, r.length ≤ es.length
theorem tab_len (es : List (Int × Int)) : TLen es := by
  have h := tab_ok es es.length
  rw [List.take_length] at h
  have h : TabOk (tabN es) es.length := h
  exact ⟨h.l1, by have := h.l1; have := h.l2; omega, h.r1, h.r2⟩
theorem tab_flat {es : List (Int × Int)} (ok : PtsOk es) : (tabN es).1.flatten.length = es.length ∧ (tabN es).2.flatten.length = es.length := by
  have t := (tab_all ok).1
  exact ⟨by rw [t.pf.length_eq, List.length_map], by rw [t.qf.length_eq, List.length_map]⟩
theorem swap_ok {qs es : List (Int × Int)} (ok : PtsOk qs) (hp : es.Perm (qs.map swp)) (hs : es.Pairwise fun p q => ¬ TL.lexP q p = true) : PtsOk es := by
  have nx : (es.map (·.1)).Nodup := ((hp.map (·.1)).trans (by rw [List.map_map]; exact .refl _)).symm.nodup ok.ys
  have e2 : (es.map (·.2)).Perm (qs.map (·.1)) := (hp.map (·.2)).trans (by rw [List.map_map]; exact .refl _)
  refine ⟨?_, e2.symm.nodup ?_⟩
  · rw [List.Nodup, List.pairwise_map] at nx
    refine (hs.and nx).imp fun {p q} ⟨h1, h2⟩ => ?_
    by_cases h : q.1 < p.1
    · exact absurd (SrtO.lexB_iff.mpr (.inl h)) h1
    · omega
  · rw [List.Nodup, List.pairwise_map]
    exact ok.xs.imp fun {p q} h => by omega
theorem map_int_inj {a b : List Int} (h : a.map PyData.int = b.map PyData.int) : a = b := (List.map_inj_right fun x y e => by injection e).mp h
theorem asc_only {a b : List Int} (hp : a.Perm b) (ha : a.Pairwise (· ≤ ·)) (hb : b.Pairwise (· < ·)) : a = b := hp.eq_of_pairwise (fun x y _ _ h h' => by omega) ha (hb.imp fun {x y} h => by omega)
theorem asc_nd {a : List Int} (ha : a.Pairwise (· ≤ ·)) (nd : a.Nodup) : a.Pairwise (· < ·) := (ha.and nd).imp fun {x y} ⟨h1, h2⟩ => by omega
abbrev s_law : Stmt := topS 17
theorem sc_law : FnScope ["script", "pool", "points", "first", "second", "numbers", "other", "told", "more", "found", "names", "third", "x", "y", "k"] ["script"] (defScope s_law) := ⟨rfl, rfl, rfl, by decide +kernel, rfl, by decide +kernel, by decide +kernel⟩
section
variable {P : Program} {w : World} {K : Fg} {mg : Str → Option Value} {base : Heap}
set_option maxHeartbeats 4000000 in
theorem ok_law {f : Addr} {fd : FuncData} (F : Fun K "law" "law" s_law f fd) (c_pool : CalR P w K mg base "_law_pool" 3 ["script"] (spPool K)) (c_law_draw : Cal P w K mg base "_law_draw" 3 ["pool", "limit"] (pDraw K)) (c_law_next : Cal P w K mg base "_law_next" 3 ["pool"] (pNext K))
    (c_law_points : Cal P w K mg base "_law_points" 5 ["pool", "most"] (pLPts K)) (c_tables_of : Cal P w K mg base "tables_of" 3 ["points"] pTables) (c_law_renamed : Cal P w K mg base "_law_renamed" 1 ["table", "numbers"] pRen)
    (c_points_of : Cal P w K mg base "points_of" 2 ["first", "second"] pPtsOf) (c_shape : Cal P w K mg base "shape" 1 ["table"] pShape) (c_columns : Cal P w K mg base "columns" 1 ["told"] pColumns)
    (m_list : mg "list" = none) (m_len : mg "len" = none) (m_range : mg "range" = none) (m_sorted : mg "sorted" = none) : FnOk P w K mg base CX0 7 f fd ["script"] (spLaw K) := by
  have nd := sc_law.nd
  refine F.ok sc_law (fun vs H Q E ⟨a, ns, h, _⟩ => by rw [h]; rfl) (fun cdv A outer s H vs Q E hr ⟨sa, ns, hv, hS, hl, q⟩ => ?_)
  subst hv
  have hu65 := Room.units65 hr
  refine ⟨_, pss_cons (ps_set (i := 1) nd rfl (by first | exact .inl rfl | exact .inr rfl) (pe_cal c_pool (hr.mono (by decide)) (pa_cons (pv 0) pa_nil))) (VSs.pss (by exact
(vss_cons (vs_set (n := 2) nd rfl (vc_cal c_law_points (hr.mono (by decide)) (va_cons (vc_var (pv 1)) (va_cons vc_int va_nil))))
    (vss_cons (vs_asg (vc_cal c_tables_of (hr.mono (by decide)) (va_cons (vc_var (pv 2)) va_nil)) (vn_tup (n := 2) (vns_cons (vn_name (n := 3) nd rfl) (vns_cons (vn_name (n := 4) nd rfl) vns_nil))).vg)
    (vss_cons (vs_if (vb_cmp (op_neA hr.units) ok_ne (vc_cal c_tables_of (hr.mono (by decide)) (va_cons (vc_lc (own := [("x", 12), ("y", 13)]) nd (vj_seq (se_var (pv 2))) (blk_ok (N := ["script", "pool", "points", "first", "second", "numbers", "other", "told", "more", "found", "names", "third", "x", "y", "k"]) (sc := defScope s_law) (by decide +kernel)) (fun _ _ _ _ _ => (vn_tup (n := 2) (vns_cons (vn_name (n := 12) nd rfl) (vns_cons (vn_name (n := 13) nd rfl) vns_nil)))) (fun _ _ _ _ _ => vts_nil) (fun _ _ _ _ _ => (vc_tup (vl_cons (vc_var (pv 13)) (vl_cons (vc_var (pv 12)) vl_nil))))) va_nil)).se (vc_tup (vl_cons (vc_var (pv 4)) (vl_cons (vc_var (pv 3)) vl_nil))).se)
      (vss_one (vs_ret vc_bl))
      vss_nil)
    (vss_cons (vs_if (vb_cmp (op_neA hr.units) ok_ne (vc_cal c_shape (hr.mono (by decide)) (va_cons (vc_ix (vc_cal c_tables_of (hr.mono (by decide)) (va_cons (vc_lc (own := [("x", 12), ("y", 13)]) nd (vj_seq (se_var (pv 2))) (blk_ok (N := ["script", "pool", "points", "first", "second", "numbers", "other", "told", "more", "found", "names", "third", "x", "y", "k"]) (sc := defScope s_law) (by decide +kernel)) (fun _ _ _ _ _ => (vn_tup (n := 2) (vns_cons (vn_name (n := 12) nd rfl) (vns_cons (vn_name (n := 13) nd rfl) vns_nil)))) (fun _ _ _ _ _ => vts_nil) (fun _ _ _ _ _ => (vc_tup (vl_cons (vc_neg (se_var (pv 12))) (vl_cons (vc_var (pv 13)) vl_nil))))) va_nil)).se vc_int.se) va_nil)).se (vc_cal c_columns (hr.mono (by decide)) (va_cons (vc_cal c_shape (hr.mono (by decide)) (va_cons (vc_var (pv 3)) va_nil)) va_nil)).se)
      (vss_one (vs_ret vc_bl))
      vss_nil)
    (vss_cons (vs_if (vb_cmp (op_neA hr.units) ok_ne (vc_cal c_shape (hr.mono (by decide)) (va_cons (vc_ix (vc_cal c_tables_of (hr.mono (by decide)) (va_cons (vc_lc (own := [("x", 12), ("y", 13)]) nd (vj_seq (se_var (pv 2))) (blk_ok (N := ["script", "pool", "points", "first", "second", "numbers", "other", "told", "more", "found", "names", "third", "x", "y", "k"]) (sc := defScope s_law) (by decide +kernel)) (fun _ _ _ _ _ => (vn_tup (n := 2) (vns_cons (vn_name (n := 12) nd rfl) (vns_cons (vn_name (n := 13) nd rfl) vns_nil)))) (fun _ _ _ _ _ => vts_nil) (fun _ _ _ _ _ => (vc_tup (vl_cons (vc_var (pv 12)) (vl_cons (vc_neg (se_var (pv 13))) vl_nil))))) va_nil)).se vc_int.se) va_nil)).se (vc_cal c_columns (hr.mono (by decide)) (va_cons (vc_cal c_shape (hr.mono (by decide)) (va_cons (vc_var (pv 3)) va_nil)) va_nil)).se)
      (vss_one (vs_ret vc_bl))
      vss_nil)
    (vss_cons (vs_if (vb_cmp (op_neA hr.units) ok_ne (vc_cal c_shape (hr.mono (by decide)) (va_cons (vc_ix (vc_cal c_tables_of (hr.mono (by decide)) (va_cons (vc_lc (own := [("x", 12), ("y", 13)]) nd (vj_seq (se_var (pv 2))) (blk_ok (N := ["script", "pool", "points", "first", "second", "numbers", "other", "told", "more", "found", "names", "third", "x", "y", "k"]) (sc := defScope s_law) (by decide +kernel)) (fun _ _ _ _ _ => (vn_tup (n := 2) (vns_cons (vn_name (n := 12) nd rfl) (vns_cons (vn_name (n := 13) nd rfl) vns_nil)))) (fun _ _ _ _ _ => vts_nil) (fun _ _ _ _ _ => (vc_tup (vl_cons (vc_neg (se_var (pv 12))) (vl_cons (vc_neg (se_var (pv 13))) vl_nil))))) va_nil)).se vc_int.se) va_nil)).se (vc_cal c_shape (hr.mono (by decide)) (va_cons (vc_var (pv 3)) va_nil)).se)
      (vss_one (vs_ret vc_bl))
      vss_nil)
    (vss_cons (vs_setLc (n := 5) nd rfl rfl (sw_true rfl rfl rfl (by decide +kernel)) (own := [("k", 14)]) (vi_rng1 (vc_len (se_var (pv 2)) (by rfl) m_len).se (by rfl) m_range).vj (blk_ok (N := ["script", "pool", "points", "first", "second", "numbers", "other", "told", "more", "found", "names", "third", "x", "y", "k"]) (sc := defScope s_law) (by decide +kernel)) (fun _ _ _ _ _ => (vn_name (n := 14) nd rfl)) (fun _ _ _ _ _ => vts_nil) (fun _ _ _ _ _ => (vc_add (vc_mul vc_int.se (se_var (pv 14))).se (vc_cal c_law_draw (hr.mono (by decide)) (va_cons (vc_var (pv 1)) (va_cons vc_int va_nil))).se)))
    (vss_cons (vs_frz 5 (vs_set (n := 6) nd rfl (vc_cal c_law_renamed (hr.mono (by decide)) (va_cons (vc_var (pv 4)) (va_cons (vc_var (pv 5)) va_nil)))))
    (vss_cons (vs_set (n := 7) nd rfl (vc_cal c_points_of (hr.mono (by decide)) (va_cons (vc_var (pv 3)) (va_cons (vc_var (pv 6)) va_nil))))
    (vss_cons (vs_if (wb_or (vb_cmp (op_neA hr.units) ok_ne (vc_cal c_tables_of (hr.mono (by decide)) (va_cons (vc_var (pv 7)) va_nil)).se (vc_tup (vl_cons (vc_var (pv 3)) (vl_cons (vc_var (pv 6)) vl_nil))).se) (wb_or1 (vb_cmp (op_neA hr.units) ok_ne (vc_sortI (vc_lc (own := [("x", 12), ("y", 13)]) nd (vj_seq (se_var (pv 7))) (blk_ok (N := ["script", "pool", "points", "first", "second", "numbers", "other", "told", "more", "found", "names", "third", "x", "y", "k"]) (sc := defScope s_law) (by decide +kernel)) (fun _ _ _ _ _ => (vn_tup (n := 2) (vns_cons (vn_name (n := 12) nd rfl) (vns_cons (vn_name (n := 13) nd rfl) vns_nil)))) (fun _ _ _ _ _ => vts_nil) (fun _ _ _ _ _ => (vc_var (pv 12)))).se (by rfl) m_sorted).se (se_var (pv 5))))).vb
      (vss_one (vs_ret vc_bl))
      vss_nil)
    (vss_cons (vs_cut (vs_if (vb_cmp op_gt ok_gt (vc_len (se_var (pv 2)) (by rfl) m_len).se vc_int.se)
      (vss_cons (vs_expr (vc_cal c_law_next (hr.mono (by decide)) (va_cons (vc_var (pv 1)) va_nil)))
      (vss_cons (vs_set (n := 8) nd rfl (vc_cal c_law_points (hr.mono (by decide)) (va_cons (vc_var (pv 1)) (va_cons vc_int va_nil))))
      (vss_cons (vs_set (n := 9) nd rfl (vc_cal c_tables_of (hr.mono (by decide)) (va_cons (vc_var (pv 8)) va_nil)))
      (vss_one (vs_if (vb_cmp (op_eqA hr.units) ok_eq (vc_cal c_shape (hr.mono (by decide)) (va_cons (vc_ix (se_var (pv 9)) vc_int.se) va_nil)).se (vc_cal c_shape (hr.mono (by decide)) (va_cons (vc_var (pv 3)) va_nil)).se)
        (vss_cons (vs_set (n := 10) nd rfl (vc_sortI (vc_lc (own := [("x", 12), ("y", 13)]) nd (vj_seq (se_var (pv 2))) (blk_ok (N := ["script", "pool", "points", "first", "second", "numbers", "other", "told", "more", "found", "names", "third", "x", "y", "k"]) (sc := defScope s_law) (by decide +kernel)) (fun _ _ _ _ _ => (vn_tup (n := 2) (vns_cons (vn_name (n := 12) nd rfl) (vns_cons (vn_name (n := 13) nd rfl) vns_nil)))) (fun _ _ _ _ _ => vts_nil) (fun _ _ _ _ _ => (vc_var (pv 13)))).se (by rfl) m_sorted))
        (vss_cons (vs_frz 10 (vs_set (n := 11) nd rfl (vc_cal c_law_renamed (hr.mono (by decide)) (va_cons (vc_ix (se_var (pv 9)) vc_int.se) (va_cons (vc_var (pv 10)) va_nil)))))
        (vss_one (vs_if (vb_cmp (op_neA hr.units) ok_ne (vc_cal c_tables_of (hr.mono (by decide)) (va_cons (vc_cal c_points_of (hr.mono (by decide)) (va_cons (vc_var (pv 11)) (va_cons (vc_var (pv 4)) va_nil))) va_nil)).se (vc_tup (vl_cons (vc_var (pv 11)) (vl_cons (vc_var (pv 4)) vl_nil))).se)
          (vss_one (vs_ret vc_bl))
          vss_nil))))
        vss_nil)))))
      vss_nil))
    (vss_one (vs_ret (vc_cmp (op_eqA hr.units) ok_eq (vc_len (se_var (pv 7)) (by rfl) m_len).se (vc_len (se_var (pv 2)) (by rfl) m_len).se))))))))))))))
    ) B0), ?_⟩
  refine ⟨.ref sa, rfl, sa, ns, rfl, hS, hl, fun r p hp => law_go (n := 13) hS hl hp q ?_⟩
  refine ⟨sa, 20, rfl, by decide, fun qs ok hql => ?_⟩
  refine ⟨qs, rfl, by omega, fun qs' hp hs => ?_⟩
  rw [ok.only hp hs]
  have tF := tab_all ok
  have ndF := flat_nd ok
  have tl := tab_len qs
  have tf := tab_flat ok
  have sX : shapeN (tabN (qs.map mirX).reverse).1 = (conjL (shp qs)).map fun n : Nat => (n : Int) := shape_eq (shp_X ok)
  have sY : shapeN (tabN (qs.map mirY)).1 = (conjL (shp qs)).map fun n : Nat => (n : Int) := shape_eq (shp_Y ok)
  have sB : shapeN (tabN (qs.map mirB).reverse).1 = (shp qs).map fun n : Nat => (n : Int) := shape_eq (shp_B ok)
  have sC : colN (shapeN (tabN qs).1) = (conjL (shp qs)).map fun n : Nat => (n : Int) := conj_col rfl (shp_pos ok)
  have sA : shapeN (tabN qs).1 = (shp qs).map fun n : Nat => (n : Int) := shape_eq rfl
  rw [← sC] at sX sY
  rw [← sA] at sB
  have swE : ∀ es : List (Int × Int), es.Perm (qs.map swp) → (es.Pairwise fun p q => ¬ TL.lexP q p = true) → tabN es = ((tabN qs).2, (tabN qs).1) := fun es hp hs => tab_swap ok (swap_ok ok hp hs) hp
  generalize hT : tabN qs = T at tF ndF tf sX sY sB swE
  obtain ⟨A, B⟩ := T
  have tl1 : A.length ≤ qs.length := by have := tl.l1; rwa [hT] at this
  have tl2 : B.length ≤ qs.length := by have := tl.l2; rwa [hT] at this
  have tr1 : ∀ r ∈ A, r.length ≤ qs.length := by have := tl.r1; rwa [hT] at this
  have tr2 : ∀ r ∈ B, r.length ≤ qs.length := by have := tl.r2; rwa [hT] at this
  obtain ⟨ti, tA, tB, _⟩ := tF
  have fA : A.flatten.length = qs.length := tf.1
  have fB : B.flatten.length = qs.length := tf.2
  have sX : shapeN (tabN (qs.map mirX).reverse).1 = colN (shapeN A) := sX
  have sY : shapeN (tabN (qs.map mirY)).1 = colN (shapeN A) := sY
  have sB : shapeN (tabN (qs.map mirB).reverse).1 = shapeN A := sB
  have bnd : ∀ l ∈ shapeN A, 0 ≤ l ∧ l ≤ 1000 := fun l hl => by
    obtain ⟨r, hr, rfl⟩ := List.mem_map.mp hl
    have := tr1 r hr
    omega
  have lS : (shapeN A).length = A.length := by simp [shapeN]
  refine ⟨rfl, rfl, ?_⟩
  -- exchanged
  refine ⟨sz (by rw [List.length_map]; omega), lc_all eP (fun p => eP (swp p)) qs rfl (fun p hp k1 k2 h1 => ⟨rfl, rfl, sz (by simp), h1⟩) ?_⟩
  refine ⟨qs.map swp, by rw [List.map_map]; rfl, by rw [List.length_map]; omega, fun es hp hs => ?_⟩
  rw [swE es hp hs]
  refine ⟨sz (by simp), _, _, rfl, rfl, sh_TT _ _, sh_TT _ _, ?_⟩
  show if (!PyData.eqv (.tuple [eT B, eT A]) (.tuple [eT B, eT A])) = true then _ else _
  rw [ev_TT]
  refine iteF ?_
  -- negative xs
  refine ⟨sz (by rw [List.length_map]; omega), lc_all eP (fun p => eP (mirX p)) qs rfl (fun p hp k1 k2 h1 => ⟨rfl, rfl, sz (by simp), h1⟩) ?_⟩
  refine ⟨qs.map mirX, by rw [List.map_map]; rfl, by rw [List.length_map]; omega, fun es hp hs => ?_⟩
  rw [(mirX_ok ok).only (hp.trans (List.reverse_perm _).symm) hs]
  have lX := (tab_len (qs.map mirX).reverse).l1
  rw [List.length_reverse, List.length_map] at lX
  refine ⟨_, (atI_nat rfl : atI _ ((0 : Nat) : Int) = _), (tabN (qs.map mirX).reverse).1, rfl, by omega, A, rfl, by omega, shapeN A, rfl, by omega, bnd, ?_⟩
  rw [sX]
  refine ⟨_, _, rfl, rfl, sh_I _, sh_I _, ?_⟩
  show if (!PyData.eqv (eI (colN (shapeN A))) (eI (colN (shapeN A)))) = true then _ else _
  rw [nb_refl (nb_I _)]
  refine iteF ?_
  -- negative ys
  refine ⟨sz (by rw [List.length_map]; omega), lc_all eP (fun p => eP (mirY p)) qs rfl (fun p hp k1 k2 h1 => ⟨rfl, rfl, sz (by simp), h1⟩) ?_⟩
  refine ⟨qs.map mirY, by rw [List.map_map]; rfl, by rw [List.length_map]; omega, fun es hp hs => ?_⟩
  rw [(mirY_ok ok).only hp hs]
  have lY := (tab_len (qs.map mirY)).l1
  rw [List.length_map] at lY
  refine ⟨_, (atI_nat rfl : atI _ ((0 : Nat) : Int) = _), (tabN (qs.map mirY)).1, rfl, by omega, A, rfl, by omega, shapeN A, rfl, by omega, bnd, ?_⟩
  rw [sY]
  refine ⟨_, _, rfl, rfl, sh_I _, sh_I _, ?_⟩
  show if (!PyData.eqv (eI (colN (shapeN A))) (eI (colN (shapeN A)))) = true then _ else _
  rw [nb_refl (nb_I _)]
  refine iteF ?_
  -- both
  refine ⟨sz (by rw [List.length_map]; omega), lc_all eP (fun p => eP (mirB p)) qs rfl (fun p hp k1 k2 h1 => ⟨rfl, rfl, sz (by simp), h1⟩) ?_⟩
  refine ⟨qs.map mirB, by rw [List.map_map]; rfl, by rw [List.length_map]; omega, fun es hp hs => ?_⟩
  rw [(mirB_ok ok).only (hp.trans (List.reverse_perm _).symm) hs]
  have lB := (tab_len (qs.map mirB).reverse).l1
  rw [List.length_reverse, List.length_map] at lB
  refine ⟨_, (atI_nat rfl : atI _ ((0 : Nat) : Int) = _), (tabN (qs.map mirB).reverse).1, rfl, by omega, A, rfl, by omega, ?_⟩
  rw [sB]
  refine ⟨_, _, rfl, rfl, sh_I _, sh_I _, ?_⟩
  show if (!PyData.eqv (eI (shapeN A)) (eI (shapeN A))) = true then _ else _
  rw [nb_refl (nb_I _)]
  refine iteF ?_
  -- numbers
  refine fun _ => ⟨by rw [List.length_map]; omega, by rw [List.length_map]; omega, ?_⟩
  have ec : (((qs.map eP).length : Int)).toNat = qs.length := by rw [List.length_map]; omega
  rw [ec]
  refine ⟨by rw [rng_len]; exact sz (by omega), ?_⟩
  refine lc_pair (fun j : Nat => .int (j : Int)) .int (fun j b => 3 * (j : Int) ≤ b ∧ b < 3 * (j : Int) + 3) (List.range qs.length) rng_map (fun j hj k1 k2 h1 => ⟨.inl ⟨by decide, by decide⟩, sa, _, rfl, by decide, by decide, fun v v0 v1 => h1 _ ⟨by omega, by omega⟩⟩) (fun ns nl nr => ?_)
  rw [List.length_range] at nl
  have nsA := drawn_asc nl nr
  clear nr
  -- renamed
  refine ⟨B, ns, rfl, by omega, by omega, fun r hr => by have := tr2 r hr; omega, by omega, fun told hp hs => ?_⟩
  have rn := renN_ok ti.qr tB ndF.2 hp hs nsA (by omega)
  have rp := renN_perm (nums := ns) ndF.2 hp (by omega)
  generalize renN told ns B = O at rn rp ⊢
  have shO : A.map List.length = O.map List.length := ti.sh.trans rn.sh.symm
  obtain ⟨es, eok, eT_⟩ := tab_make _ A O rfl ti.pr rn.pr tA rn.tb ndF.1 rn.nd shO
  have ef := tab_flat eok
  rw [eT_] at ef
  have el : es.length = qs.length := by have h1 : A.flatten.length = es.length := ef.1; omega
  refine ⟨es, by rw [eT_], eok, by omega, ?_⟩
  refine ⟨es, rfl, by omega, fun es' hp' hs' => ?_⟩
  rw [eok.only hp' hs', eT_]
  refine ⟨sz (by simp), _, _, rfl, rfl, sh_TT _ _, sh_TT _ _, ?_⟩
  show if (!PyData.eqv (.tuple [eT A, eT O]) (.tuple [eT A, eT O])) = true then _ else _
  rw [ev_TT]
  refine iteF ?_
  refine ⟨sz (by rw [List.length_map]; omega), lc_all eP (fun p => .int p.1) es rfl (fun p hp k1 k2 h1 => ⟨rfl, rfl, h1⟩) ?_⟩
  refine ⟨es.map (·.1), by rw [List.map_map]; rfl, fun xs' hx1 hx2 => ?_⟩
  have eti := (tab_all eok).1
  rw [eT_] at eti
  have ex : xs' = ns := asc_only (hx1.trans (eti.qf.symm.trans rp)) hx2 nsA
  rw [ex]
  refine ⟨_, _, rfl, rfl, sh_I _, sh_I _, ?_⟩
  show if (!PyData.eqv (eI ns) (eI ns)) = true then _ else _
  rw [nb_refl (nb_I _)]
  refine iteF ?_
  refine ⟨fun ρ => ∃ c8 c9 c10 c11 c12 c13 c14, ρ = [.un, .mo (PoolI K sa), .sh (.list (qs.map eP)), .sh (eT A), .sh (eT B), .sh (eI ns), .sh (eT O), .sh (.list (es.map eP)), c8, c9, c10, c11, c12, c13, c14], ?_, ?_⟩
  · refine fun _ => ?_
    show if decide (((qs.map eP).length : Int) > 1) = true then _ else _
    refine itd (fun _ => ?_) (fun _ => ⟨_, _, _, _, _, _, _, rfl⟩)
    refine ⟨sa, rfl, ?_⟩
    refine ⟨sa, 20, rfl, by decide, fun ms mok ml => ?_⟩
    refine ⟨ms, rfl, by omega, fun ms' hp hs => ?_⟩
    rw [mok.only hp hs]
    have tM := tab_all mok
    have ndM := flat_nd mok
    have mlen := tab_len ms
    have mf := tab_flat mok
    generalize hM : tabN ms = M at tM ndM mf
    obtain ⟨M1, M2⟩ := M
    have ml1 : M1.length ≤ ms.length := by have := mlen.l1; rwa [hM] at this
    have mr1 : ∀ r ∈ M1, r.length ≤ ms.length := by have := mlen.r1; rwa [hM] at this
    obtain ⟨mi, mA, mB, _⟩ := tM
    have fM : M1.flatten.length = ms.length := mf.1
    refine ⟨eT M1, (atI_nat rfl : atI _ ((0 : Nat) : Int) = _), ?_⟩
    refine ⟨M1, rfl, by omega, ?_⟩
    refine ⟨A, rfl, by omega, ?_⟩
    refine ⟨_, _, rfl, rfl, sh_I _, sh_I _, ?_⟩
    show if (PyData.eqv (eI (shapeN M1)) (eI (shapeN A))) = true then _ else _
    refine ite2 (fun e => ?_) (fun _ => ⟨_, _, _, _, _, _, _, rfl⟩)
    have e := (eqv_nb (nb_I _) (nb_I _)).mp e
    have e : shapeN M1 = shapeN A := map_int_inj (by injection e)
    have e := shape_inj e
    refine ⟨sz (by rw [List.length_map]; omega), lc_all eP (fun p => .int p.2) qs rfl (fun p hp k1 k2 h1 => ⟨rfl, rfl, h1⟩) ?_⟩
    refine ⟨qs.map (·.2), by rw [List.map_map]; rfl, fun names hn1 hn2 => ?_⟩
    have nmA := asc_nd hn2 (hn1.symm.nodup ok.ys)
    have nml : names.length = qs.length := by rw [hn1.length_eq, List.length_map]
    have fMA : M1.flatten.length = A.flatten.length := by rw [List.length_flatten, List.length_flatten, e]
    refine ⟨eT M1, (atI_nat rfl : atI _ ((0 : Nat) : Int) = _), ?_⟩
    refine ⟨M1, names, rfl, by omega, by omega, fun r hr => by have := mr1 r hr; omega, by omega, fun told hp hs => ?_⟩
    have rn2 := renN_ok mi.pr mA ndM.1 hp hs nmA (by omega)
    generalize renN told names M1 = O2 at rn2 ⊢
    have shO2 : O2.map List.length = B.map List.length := (rn2.sh.trans e).trans ti.sh
    obtain ⟨us, uok, eU⟩ := tab_make _ O2 B rfl rn2.pr ti.qr rn2.tb tB rn2.nd ndF.2 shO2
    have uf := tab_flat uok
    rw [eU] at uf
    have ul : us.length = qs.length := by have h1 : B.flatten.length = us.length := uf.2; omega
    refine ⟨us, by rw [eU], uok, by omega, ?_⟩
    refine ⟨us, rfl, by omega, fun us' hp' hs' => ?_⟩
    rw [uok.only hp' hs', eU]
    refine ⟨sz (by simp), _, _, rfl, rfl, sh_TT _ _, sh_TT _ _, ?_⟩
    show if (!PyData.eqv (.tuple [eT O2, eT B]) (.tuple [eT O2, eT B])) = true then _ else _
    rw [ev_TT]
    refine iteF ?_
    exact ⟨_, _, _, _, _, _, _, rfl⟩
  · rintro ρ ⟨c8, c9, c10, c11, c12, c13, c14, rfl⟩
    refine fun _ => fun _ => ?_
    show PyData.bool (decide (((es.map eP).length : Int) = ((qs.map eP).length : Int))) = .bool true
    rw [List.length_map, List.length_map, el]
    simp
end

end My
namespace My
open PySem PySem.Spec PyProof.Rows L2 TL
open PyData (strOk)
/-! ### next cell -/
abbrev s_law_next : Stmt := topS 12
theorem sc_law_next : FnScope ["pool"] ["pool"] (defScope s_law_next) := ⟨rfl, rfl, rfl, by decide +kernel, rfl, by decide +kernel, by decide +kernel⟩
section
variable {P : Program} {w : World} {K : Fg} {mg : Str → Option Value} {base : Heap}
theorem ok_next {c0 : CalR P w K mg base "_law_rest" 2 ["script", "place", "fills"] (spRest K)} (D : Df K mg "_law_next" s_law_next ["pool"]) : CalR P w K mg base "_law_next" 3 ["pool"] (spNext K) := by
  refine calR_ok D sc_law_next (fun vs H Q E ⟨a, sa, p1, p2, p3, ns, h, _⟩ => by rw [h]; rfl) (fun f cdv A outer s H vs Q E hr ⟨a, sa, p1, p2, p3, ns, hv, hA, hS, hl, q⟩ => ?_)
  subst hv
  have nd := sc_law_next.nd
  refine ⟨_, pss_cons (ps_asg (pe_op op_add (pe_ix ix_list (pv 0) pe_int (fun _ _ => rfl)) pe_int) (pg_sub (pv 0) pe_int set_list))
    (pss_cons (ps_asg (pe_cal c0 (hr.mono (by decide)) (pa_cons (pe_ix ix_list (pv 0) pe_int (fun _ _ => rfl)) (pa_cons (pe_ix ix_list (pv 0) pe_int (fun _ _ => rfl)) (pa_cons pe_int pa_nil)))) (pg_sub (pv 0) pe_int set_list))
    (pss_one (ps_asg pe_int (pg_sub (pv 0) pe_int set_list)))), ?_⟩
  refine ⟨.ref a, rfl, a, _, 1, _, rfl, rfl, .inl (.inl hA), rfl, _, _, rfl, rfl, .ref a, rfl, a, _, 1, 1, rfl, rfl, hA, rfl, ?_⟩
  have hS1 := sqL_upd (o := .lst [.ref sa, .int (p1 + 1), .int p2, .int p3]) hS hA
  refine ⟨.ref a, rfl, a, _, 0, _, rfl, rfl, .inl (.inl upd_same), rfl, .ref a, rfl, a, _, 1, _, rfl, rfl, .inl (.inl upd_same), rfl, sa, _, _, ns, rfl, hS1, hl, fun r => ?_⟩
  refine ⟨.ref a, rfl, a, _, 2, 2, rfl, rfl, upd_same, rfl, ?_⟩
  refine ⟨.ref a, rfl, a, _, 3, 3, rfl, rfl, upd_same, rfl, ?_⟩
  rw [upd_upd, upd_upd]
  exact q _ _ _
end

end My
namespace My
open PySem PySem.Spec PyProof.Rows L2 TL
structure Dfs (K : Fg) (mg : Str → Option Value) : Prop where
  d_placed : Df K mg "placed" s_placed ["row", "number"]
  d_inserted : Df K mg "inserted" s_inserted ["table", "number"]
  d_tables_of : Df K mg "tables_of" s_tables_of ["points"]
  d_taken_out : Df K mg "taken_out" s_taken_out ["table", "at"]
  d_points_of : Df K mg "points_of" s_points_of ["first", "second"]
  d_shape : Df K mg "shape" s_shape ["table"]
  d_columns : Df K mg "columns" s_columns ["told"]
  d_law_mixed : Df K mg "_law_mixed" s_law_mixed ["number", "place"]
  d_law_rest : Df K mg "_law_rest" s_law_rest ["script", "place", "fills"]
  d_law_pool : Df K mg "_law_pool" s_law_pool ["script"]
  d_law_next : Df K mg "_law_next" s_law_next ["pool"]
  d_law_draw : Df K mg "_law_draw" s_law_draw ["pool", "limit"]
  d_law_pick : Df K mg "_law_pick" s_law_pick ["pool", "options"]
  d_law_points : Df K mg "_law_points" s_law_points ["pool", "most"]
  d_law_renamed : Df K mg "_law_renamed" s_law_renamed ["table", "numbers"]
  m_enumerate : mg "enumerate" = none
  m_int : mg "int" = none
  m_len : mg "len" = none
  m_list : mg "list" = none
  m_max : mg "max" = none
  m_range : mg "range" = none
  m_sorted : mg "sorted" = none
theorem law_all {P : Program} {w : World} {K : Fg} {mg : Str → Option Value} {base : Heap} {f : Addr} {fd : FuncData} (F : Fun K "law" "law" s_law f fd) (D : Dfs K mg) : FnOk P w K mg base CX0 7 f fd ["script"] (spLaw K) := by
  have c_law_mixed := ok_mixed (P := P) (w := w) (base := base) D.d_law_mixed D.m_int
  have c_law_rest := ok_rest (c0 := c_law_mixed) D.d_law_rest D.m_int D.m_len
  have c_law_draw := draw_T (ok_draw (c0 := c_law_rest) D.d_law_draw D.m_int)
  have c_law_next := next_T (ok_next (c0 := c_law_rest) D.d_law_next)
  have c_law_pick := ok_pick D.d_law_pick c_law_draw D.m_len
  have c_law_points := ok_lpts D.d_law_points c_law_draw c_law_pick D.m_sorted D.m_len D.m_range
  have c_placed := ok_placed (P := P) (w := w) (base := base) D.d_placed D.m_enumerate
  have c_inserted := ok_inserted D.d_inserted c_placed D.m_enumerate D.m_list D.m_len
  have c_tables_of := ok_tables D.d_tables_of c_inserted D.m_sorted D.m_len
  have c_law_renamed := ok_ren (P := P) (w := w) (base := base) D.d_law_renamed D.m_sorted
  have c_taken_out := ok_taken (P := P) (w := w) (base := base) D.d_taken_out D.m_list D.m_range D.m_max D.m_enumerate
  have c_points_of := ok_ptsof D.d_points_of c_taken_out D.m_list D.m_max D.m_enumerate D.m_sorted
  have c_shape := ok_shape (P := P) (w := w) (base := base) D.d_shape D.m_len
  have c_columns := ok_columns (P := P) (w := w) (base := base) D.d_columns D.m_len D.m_range
  have c_law_pool := ok_pool (c0 := c_law_rest) D.d_law_pool
  exact ok_law F c_law_pool c_law_draw c_law_next c_law_points c_tables_of c_law_renamed c_points_of c_shape c_columns D.m_list D.m_len D.m_range D.m_sorted
theorem all_mk {l : PySem.W.OpenLaw} {w : World} {K : PySem.W.Frag} {h : Heap} {mg : Str → Option Value} {fa : Addr} (X : K.In h) (G : h.Ns mainGlobals mg) (hfa : mg "law" = some (.ref fa))
    {f0 : Addr} {od0 an0 : Option Addr} {sl0 : Array (Option Value)} {oc0 kV0 dc0 pm0 cd0 ct0 : Value} (a0 : PySem.W.nsIn K mainGlobals "placed" = some (some (.ref f0))) (l0 : K.lookup f0 = some ⟨oc0, od0, .func (PySem.W.fnOf "placed" "placed" (defArgs s_placed) (defBody s_placed) (defScope s_placed) .none kV0 dc0 pm0 an0 cd0 ct0), sl0⟩) (c0 : PySem.W.codeIn K cd0 "placed" = true) (k0 : PySem.W.keepIn K (.ref f0) = true)
    {f1 : Addr} {od1 an1 : Option Addr} {sl1 : Array (Option Value)} {oc1 kV1 dc1 pm1 cd1 ct1 : Value} (a1 : PySem.W.nsIn K mainGlobals "inserted" = some (some (.ref f1))) (l1 : K.lookup f1 = some ⟨oc1, od1, .func (PySem.W.fnOf "inserted" "inserted" (defArgs s_inserted) (defBody s_inserted) (defScope s_inserted) .none kV1 dc1 pm1 an1 cd1 ct1), sl1⟩) (c1 : PySem.W.codeIn K cd1 "inserted" = true) (k1 : PySem.W.keepIn K (.ref f1) = true)
    {f2 : Addr} {od2 an2 : Option Addr} {sl2 : Array (Option Value)} {oc2 kV2 dc2 pm2 cd2 ct2 : Value} (a2 : PySem.W.nsIn K mainGlobals "tables_of" = some (some (.ref f2))) (l2 : K.lookup f2 = some ⟨oc2, od2, .func (PySem.W.fnOf "tables_of" "tables_of" (defArgs s_tables_of) (defBody s_tables_of) (defScope s_tables_of) .none kV2 dc2 pm2 an2 cd2 ct2), sl2⟩) (c2 : PySem.W.codeIn K cd2 "tables_of" = true) (k2 : PySem.W.keepIn K (.ref f2) = true)
    {f3 : Addr} {od3 an3 : Option Addr} {sl3 : Array (Option Value)} {oc3 kV3 dc3 pm3 cd3 ct3 : Value} (a3 : PySem.W.nsIn K mainGlobals "taken_out" = some (some (.ref f3))) (l3 : K.lookup f3 = some ⟨oc3, od3, .func (PySem.W.fnOf "taken_out" "taken_out" (defArgs s_taken_out) (defBody s_taken_out) (defScope s_taken_out) .none kV3 dc3 pm3 an3 cd3 ct3), sl3⟩) (c3 : PySem.W.codeIn K cd3 "taken_out" = true) (k3 : PySem.W.keepIn K (.ref f3) = true)
    {f4 : Addr} {od4 an4 : Option Addr} {sl4 : Array (Option Value)} {oc4 kV4 dc4 pm4 cd4 ct4 : Value} (a4 : PySem.W.nsIn K mainGlobals "points_of" = some (some (.ref f4))) (l4 : K.lookup f4 = some ⟨oc4, od4, .func (PySem.W.fnOf "points_of" "points_of" (defArgs s_points_of) (defBody s_points_of) (defScope s_points_of) .none kV4 dc4 pm4 an4 cd4 ct4), sl4⟩) (c4 : PySem.W.codeIn K cd4 "points_of" = true) (k4 : PySem.W.keepIn K (.ref f4) = true)
    {f5 : Addr} {od5 an5 : Option Addr} {sl5 : Array (Option Value)} {oc5 kV5 dc5 pm5 cd5 ct5 : Value} (a5 : PySem.W.nsIn K mainGlobals "shape" = some (some (.ref f5))) (l5 : K.lookup f5 = some ⟨oc5, od5, .func (PySem.W.fnOf "shape" "shape" (defArgs s_shape) (defBody s_shape) (defScope s_shape) .none kV5 dc5 pm5 an5 cd5 ct5), sl5⟩) (c5 : PySem.W.codeIn K cd5 "shape" = true) (k5 : PySem.W.keepIn K (.ref f5) = true)
    {f6 : Addr} {od6 an6 : Option Addr} {sl6 : Array (Option Value)} {oc6 kV6 dc6 pm6 cd6 ct6 : Value} (a6 : PySem.W.nsIn K mainGlobals "columns" = some (some (.ref f6))) (l6 : K.lookup f6 = some ⟨oc6, od6, .func (PySem.W.fnOf "columns" "columns" (defArgs s_columns) (defBody s_columns) (defScope s_columns) .none kV6 dc6 pm6 an6 cd6 ct6), sl6⟩) (c6 : PySem.W.codeIn K cd6 "columns" = true) (k6 : PySem.W.keepIn K (.ref f6) = true)
    {f7 : Addr} {od7 an7 : Option Addr} {sl7 : Array (Option Value)} {oc7 kV7 dc7 pm7 cd7 ct7 : Value} (a7 : PySem.W.nsIn K mainGlobals "_law_mixed" = some (some (.ref f7))) (l7 : K.lookup f7 = some ⟨oc7, od7, .func (PySem.W.fnOf "_law_mixed" "_law_mixed" (defArgs s_law_mixed) (defBody s_law_mixed) (defScope s_law_mixed) .none kV7 dc7 pm7 an7 cd7 ct7), sl7⟩) (c7 : PySem.W.codeIn K cd7 "_law_mixed" = true) (k7 : PySem.W.keepIn K (.ref f7) = true)
    {f8 : Addr} {od8 an8 : Option Addr} {sl8 : Array (Option Value)} {oc8 kV8 dc8 pm8 cd8 ct8 : Value} (a8 : PySem.W.nsIn K mainGlobals "_law_rest" = some (some (.ref f8))) (l8 : K.lookup f8 = some ⟨oc8, od8, .func (PySem.W.fnOf "_law_rest" "_law_rest" (defArgs s_law_rest) (defBody s_law_rest) (defScope s_law_rest) .none kV8 dc8 pm8 an8 cd8 ct8), sl8⟩) (c8 : PySem.W.codeIn K cd8 "_law_rest" = true) (k8 : PySem.W.keepIn K (.ref f8) = true)
    {f9 : Addr} {od9 an9 : Option Addr} {sl9 : Array (Option Value)} {oc9 kV9 dc9 pm9 cd9 ct9 : Value} (a9 : PySem.W.nsIn K mainGlobals "_law_pool" = some (some (.ref f9))) (l9 : K.lookup f9 = some ⟨oc9, od9, .func (PySem.W.fnOf "_law_pool" "_law_pool" (defArgs s_law_pool) (defBody s_law_pool) (defScope s_law_pool) .none kV9 dc9 pm9 an9 cd9 ct9), sl9⟩) (c9 : PySem.W.codeIn K cd9 "_law_pool" = true) (k9 : PySem.W.keepIn K (.ref f9) = true)
    {f10 : Addr} {od10 an10 : Option Addr} {sl10 : Array (Option Value)} {oc10 kV10 dc10 pm10 cd10 ct10 : Value} (a10 : PySem.W.nsIn K mainGlobals "_law_next" = some (some (.ref f10))) (l10 : K.lookup f10 = some ⟨oc10, od10, .func (PySem.W.fnOf "_law_next" "_law_next" (defArgs s_law_next) (defBody s_law_next) (defScope s_law_next) .none kV10 dc10 pm10 an10 cd10 ct10), sl10⟩) (c10 : PySem.W.codeIn K cd10 "_law_next" = true) (k10 : PySem.W.keepIn K (.ref f10) = true)
    {f11 : Addr} {od11 an11 : Option Addr} {sl11 : Array (Option Value)} {oc11 kV11 dc11 pm11 cd11 ct11 : Value} (a11 : PySem.W.nsIn K mainGlobals "_law_draw" = some (some (.ref f11))) (l11 : K.lookup f11 = some ⟨oc11, od11, .func (PySem.W.fnOf "_law_draw" "_law_draw" (defArgs s_law_draw) (defBody s_law_draw) (defScope s_law_draw) .none kV11 dc11 pm11 an11 cd11 ct11), sl11⟩) (c11 : PySem.W.codeIn K cd11 "_law_draw" = true) (k11 : PySem.W.keepIn K (.ref f11) = true)
    {f12 : Addr} {od12 an12 : Option Addr} {sl12 : Array (Option Value)} {oc12 kV12 dc12 pm12 cd12 ct12 : Value} (a12 : PySem.W.nsIn K mainGlobals "_law_pick" = some (some (.ref f12))) (l12 : K.lookup f12 = some ⟨oc12, od12, .func (PySem.W.fnOf "_law_pick" "_law_pick" (defArgs s_law_pick) (defBody s_law_pick) (defScope s_law_pick) .none kV12 dc12 pm12 an12 cd12 ct12), sl12⟩) (c12 : PySem.W.codeIn K cd12 "_law_pick" = true) (k12 : PySem.W.keepIn K (.ref f12) = true)
    {f13 : Addr} {od13 an13 : Option Addr} {sl13 : Array (Option Value)} {oc13 kV13 dc13 pm13 cd13 ct13 : Value} (a13 : PySem.W.nsIn K mainGlobals "_law_points" = some (some (.ref f13))) (l13 : K.lookup f13 = some ⟨oc13, od13, .func (PySem.W.fnOf "_law_points" "_law_points" (defArgs s_law_points) (defBody s_law_points) (defScope s_law_points) .none kV13 dc13 pm13 an13 cd13 ct13), sl13⟩) (c13 : PySem.W.codeIn K cd13 "_law_points" = true) (k13 : PySem.W.keepIn K (.ref f13) = true)
    {f14 : Addr} {od14 an14 : Option Addr} {sl14 : Array (Option Value)} {oc14 kV14 dc14 pm14 cd14 ct14 : Value} (a14 : PySem.W.nsIn K mainGlobals "_law_renamed" = some (some (.ref f14))) (l14 : K.lookup f14 = some ⟨oc14, od14, .func (PySem.W.fnOf "_law_renamed" "_law_renamed" (defArgs s_law_renamed) (defBody s_law_renamed) (defScope s_law_renamed) .none kV14 dc14 pm14 an14 cd14 ct14), sl14⟩) (c14 : PySem.W.codeIn K cd14 "_law_renamed" = true) (k14 : PySem.W.keepIn K (.ref f14) = true)
    {f15 : Addr} {od15 an15 : Option Addr} {sl15 : Array (Option Value)} {oc15 kV15 dc15 pm15 cd15 ct15 : Value} (a15 : PySem.W.nsIn K mainGlobals "law" = some (some (.ref f15))) (l15 : K.lookup f15 = some ⟨oc15, od15, .func (PySem.W.fnOf "law" "law" (defArgs s_law) (defBody s_law) (defScope s_law) .none kV15 dc15 pm15 an15 cd15 ct15), sl15⟩) (c15 : PySem.W.codeIn K cd15 "law" = true) (k15 : PySem.W.keepIn K (.ref f15) = true)
    (z0 : PySem.W.nsIn K mainGlobals "enumerate" = some none)
    (z1 : PySem.W.nsIn K mainGlobals "int" = some none)
    (z2 : PySem.W.nsIn K mainGlobals "len" = some none)
    (z3 : PySem.W.nsIn K mainGlobals "list" = some none)
    (z4 : PySem.W.nsIn K mainGlobals "max" = some none)
    (z5 : PySem.W.nsIn K mainGlobals "range" = some none)
    (z6 : PySem.W.nsIn K mainGlobals "sorted" = some none)
    : ∃ fd : FuncData, (∀ (s : Shared) (v : Value), BindsTo s fd ⟨[v], []⟩ [("script", v)]) ∧ ∀ base : Heap, K.In base → base.Ns mainGlobals mg → FnOk l.prog w K mg base CX0 7 fa fd ["script"] (spLaw K) := by
  have e := hfa.symm.trans (PySem.W.mg_of X G a15)
  cases e
  have D : Dfs K mg := {
    d_placed := df_mk (PySem.W.mg_of X G a0) l0 c0 k0 (fun us hl => match us, hl with | [_, _], _ => rfl)
    d_inserted := df_mk (PySem.W.mg_of X G a1) l1 c1 k1 (fun us hl => match us, hl with | [_, _], _ => rfl)
    d_tables_of := df_mk (PySem.W.mg_of X G a2) l2 c2 k2 (fun us hl => match us, hl with | [_], _ => rfl)
    d_taken_out := df_mk (PySem.W.mg_of X G a3) l3 c3 k3 (fun us hl => match us, hl with | [_, _], _ => rfl)
    d_points_of := df_mk (PySem.W.mg_of X G a4) l4 c4 k4 (fun us hl => match us, hl with | [_, _], _ => rfl)
    d_shape := df_mk (PySem.W.mg_of X G a5) l5 c5 k5 (fun us hl => match us, hl with | [_], _ => rfl)
    d_columns := df_mk (PySem.W.mg_of X G a6) l6 c6 k6 (fun us hl => match us, hl with | [_], _ => rfl)
    d_law_mixed := df_mk (PySem.W.mg_of X G a7) l7 c7 k7 (fun us hl => match us, hl with | [_, _], _ => rfl)
    d_law_rest := df_mk (PySem.W.mg_of X G a8) l8 c8 k8 (fun us hl => match us, hl with | [_, _, _], _ => rfl)
    d_law_pool := df_mk (PySem.W.mg_of X G a9) l9 c9 k9 (fun us hl => match us, hl with | [_], _ => rfl)
    d_law_next := df_mk (PySem.W.mg_of X G a10) l10 c10 k10 (fun us hl => match us, hl with | [_], _ => rfl)
    d_law_draw := df_mk (PySem.W.mg_of X G a11) l11 c11 k11 (fun us hl => match us, hl with | [_, _], _ => rfl)
    d_law_pick := df_mk (PySem.W.mg_of X G a12) l12 c12 k12 (fun us hl => match us, hl with | [_, _], _ => rfl)
    d_law_points := df_mk (PySem.W.mg_of X G a13) l13 c13 k13 (fun us hl => match us, hl with | [_, _], _ => rfl)
    d_law_renamed := df_mk (PySem.W.mg_of X G a14) l14 c14 k14 (fun us hl => match us, hl with | [_, _], _ => rfl)
    m_enumerate := PySem.W.mg_none_of X G z0
    m_int := PySem.W.mg_none_of X G z1
    m_len := PySem.W.mg_none_of X G z2
    m_list := PySem.W.mg_none_of X G z3
    m_max := PySem.W.mg_none_of X G z4
    m_range := PySem.W.mg_none_of X G z5
    m_sorted := PySem.W.mg_none_of X G z6
  }
  exact ⟨PySem.W.fnOf "law" "law" (defArgs s_law) (defBody s_law) (defScope s_law) .none kV15 dc15 pm15 an15 cd15 ct15, fun s v => .of_eq rfl, fun base _ _ => law_all (fun_mk l15 c15 k15) D⟩
end My
open PySem PySem.W PyProof.Rows
set_option maxHeartbeats 0 in
theorem PySem.Challenge.cw_boxwood_k97_whole_tables_exchanged_and_m_holds : PySem.Challenge.rw_boxwood_k97_whole_tables_exchanged_and_m.Holds := by
  w_on; o_law; k_head; (case hw => w_witness2)
  k_fill
  refine L2.walk_of (l := PySem.Challenge.rw_boxwood_k97_whole_tables_exchanged_and_m) (n := 63) (k := 7) (x := "script") (CX := fun _ => L2.CX0) (sp := fun w => TL.spLaw _) rfl (by decide) rfl ⟨rfl, by decide, by decide⟩ (fun w h Y => PySem.W.kIn_of Y) ?F (fun _ _ a ns hl _ hS => ⟨a, ns, rfl, hS, hl, fun _ => rfl⟩) (fun _ _ _ _ _ h => h)
  case F =>
    intro w mg fa h KX G hmg
    refine' My.all_mk KX G hmg ?a0 ?l0 ?c0 ?k0 ?a1 ?l1 ?c1 ?k1 ?a2 ?l2 ?c2 ?k2 ?a3 ?l3 ?c3 ?k3 ?a4 ?l4 ?c4 ?k4 ?a5 ?l5 ?c5 ?k5 ?a6 ?l6 ?c6 ?k6 ?a7 ?l7 ?c7 ?k7 ?a8 ?l8 ?c8 ?k8 ?a9 ?l9 ?c9 ?k9 ?a10 ?l10 ?c10 ?k10 ?a11 ?l11 ?c11 ?k11 ?a12 ?l12 ?c12 ?k12 ?a13 ?l13 ?c13 ?k13 ?a14 ?l14 ?c14 ?k14 ?a15 ?l15 ?c15 ?k15 ?z0 ?z1 ?z2 ?z3 ?z4 ?z5 ?z6
    (case a0 => k_is); (case l0 => k_is); (case c0 => k_is); (case k0 => k_is); (case a1 => k_is); (case l1 => k_is); (case c1 => k_is); (case k1 => k_is); (case a2 => k_is); (case l2 => k_is); (case c2 => k_is); (case k2 => k_is); (case a3 => k_is); (case l3 => k_is); (case c3 => k_is); (case k3 => k_is); (case a4 => k_is); (case l4 => k_is); (case c4 => k_is); (case k4 => k_is); (case a5 => k_is); (case l5 => k_is); (case c5 => k_is); (case k5 => k_is); (case a6 => k_is); (case l6 => k_is); (case c6 => k_is); (case k6 => k_is); (case a7 => k_is); (case l7 => k_is); (case c7 => k_is); (case k7 => k_is); (case a8 => k_is); (case l8 => k_is); (case c8 => k_is); (case k8 => k_is); (case a9 => k_is); (case l9 => k_is); (case c9 => k_is); (case k9 => k_is); (case a10 => k_is); (case l10 => k_is); (case c10 => k_is); (case k10 => k_is); (case a11 => k_is); (case l11 => k_is); (case c11 => k_is); (case k11 => k_is); (case a12 => k_is); (case l12 => k_is); (case c12 => k_is); (case k12 => k_is); (case a13 => k_is); (case l13 => k_is); (case c13 => k_is); (case k13 => k_is); (case a14 => k_is); (case l14 => k_is); (case c14 => k_is); (case k14 => k_is); (case a15 => k_is); (case l15 => k_is); (case c15 => k_is); (case k15 => k_is); (case z0 => k_is); (case z1 => k_is); (case z2 => k_is); (case z3 => k_is); (case z4 => k_is); (case z5 => k_is); (case z6 => k_is)
