import PyProof.Rows.All
import Wide.All
import OpenK.AllK
import Wide.FinOn
import HandS.ForMost
import HandS.Walk
import HandS.Star
import HandS.TupAny
import HandS.Style
import HandS.Defaults
import HandS.Flow
import HandS.WordsExc
import PyProof.Rows.SetFrom
import HandS.Set
import KE.SortData
import KE.KDictKeyed
import KE.KDictDisplayH
import KE.SortLaws
import HandS.Ends
import PySem.Challenge.RW_asfound_k43_whole_no_shorter_row
set_option Elab.async false
set_option linter.all false
set_option maxRecDepth 100000
set_option maxHeartbeats 4000000
/-! A data level over the hand layer: immutable data (PyData) in a growing part Hi of the heap, mutable cells by number. -/
namespace AF
open PySem PySem.Spec PyProof.Rows L2

abbrev Fg := PySem.W.Frag
/-- an entry: data that no longer changes, or the i-th cell -/
inductive En where
  | d (x : PyData)
  | p (i : Nat)
inductive Cl where
  | gone
  | lst (xs : List En)
  | ins (C : Addr) (fs : List (Str × En))
  /-- any other object that holds the entries es: R its address, the object, the values -/
  | ext (R : Addr → HO → List V → Prop) (es : List En)

theorem paired_get {A B : Type} {R : A → B → Prop} : ∀ {l : List A} {m : List B} {i : Nat} {x : A}, Paired R l m → l[i]? = some x → ∃ y, m[i]? = some y ∧ R x y
  | _, _, _, _, .nil, e => by simp at e
  | _, _, 0, _, .cons r _, e => by simp at e; subst e; exact ⟨_, rfl, r⟩
  | _, _, i + 1, _, .cons _ t, e => by
    obtain ⟨y, h1, h2⟩ := paired_get (i := i) t (by simpa using e)
    exact ⟨y, by simpa using h1, h2⟩
theorem paired_imp {A B : Type} {R R' : A → B → Prop} (f : ∀ a b, R a b → R' a b) : ∀ {l : List A} {m : List B}, Paired R l m → Paired R' l m
  | _, _, .nil => .nil
  | _, _, .cons r t => .cons (f _ _ r) (paired_imp f t)
theorem paired_app {A B : Type} {R : A → B → Prop} : ∀ {l l' : List A} {m m' : List B}, Paired R l m → Paired R l' m' → Paired R (l ++ l') (m ++ m')
  | _, _, _, _, .nil, s => s
  | _, _, _, _, .cons r t, s => .cons r (paired_app t s)
theorem paired_len {A B : Type} {R : A → B → Prop} : ∀ {l : List A} {m : List B}, Paired R l m → l.length = m.length
  | _, _, .nil => rfl
  | _, _, .cons _ t => by simp [paired_len t]
theorem paired_set {A B : Type} {R : A → B → Prop} {x : A} {y : B} (r : R x y) : ∀ {l : List A} {m : List B} (i : Nat), Paired R l m → Paired R (l.set i x) (m.set i y)
  | _, _, _, .nil => .nil
  | _, _, 0, .cons _ t => .cons r t
  | _, _, i + 1, .cons q t => .cons q (paired_set r i t)
theorem paired_drop {A B : Type} {R : A → B → Prop} : ∀ {l : List A} {m : List B} (n : Nat), Paired R l m → Paired R (l.drop n) (m.drop n)
  | _, _, 0, r => r
  | _, _, _ + 1, .nil => .nil
  | _, _, n + 1, .cons _ t => paired_drop n t
theorem paired_take {A B : Type} {R : A → B → Prop} : ∀ {l : List A} {m : List B} (n : Nat), Paired R l m → Paired R (l.take n) (m.take n)
  | _, _, 0, _ => .nil
  | _, _, _ + 1, .nil => .nil
  | _, _, n + 1, .cons r t => .cons r (paired_take n t)
theorem paired_rev {A B : Type} {R : A → B → Prop} : ∀ {l : List A} {m : List B}, Paired R l m → Paired R l.reverse m.reverse
  | _, _, .nil => .nil
  | _, _, .cons r t => by rw [List.reverse_cons, List.reverse_cons]; exact paired_app (paired_rev t) (.cons r .nil)
theorem paired_erase {A B : Type} {R : A → B → Prop} : ∀ {l : List A} {m : List B} (n : Nat), Paired R l m → Paired R (l.eraseIdx n) (m.eraseIdx n)
  | _, _, _, .nil => by simpa using Paired.nil
  | _, _, 0, .cons _ t => by simpa using t
  | _, _, n + 1, .cons r t => by simpa using Paired.cons r (paired_erase n t)

/-! ### data under a growing heap -/
mutual
theorem dpM {K : Fg} {H H' : Hp} (e : Same H H') : ∀ (d : PyData) (v : V), Dp K H v d → Dp K H' v d
  | .none, _, h => by cases h; exact .non
  | .bool b, _, h => by cases h; exact .bl b
  | .int i, _, h => by cases h; exact .int i
  | .str x, _, h => by cases h; exact .str x
  | .list ds, _, h => by
    cases h with
    | lst hs ha => exact .lst (e.seq hs) (dpsM e ds _ ha)
  | .tuple ds, _, h => by
    cases h with
    | tup hs ha =>
      refine .tup ?_ (dpsM e ds _ ha)
      rcases hs with (h | ⟨o, h⟩) | h
      · exact .inl (.inl (e _ _ h))
      · exact .inl (.inr ⟨o, e _ _ h⟩)
      · exact .inr h
  | .dict _, _, h => by cases h
theorem dpsM {K : Fg} {H H' : Hp} (e : Same H H') : ∀ (ds : List PyData) (vs : List V), DpAll K H vs ds → DpAll K H' vs ds
  | [], _, h => by cases h; exact .nil
  | d :: ds, _, h => by
    cases h with
    | cons h1 h2 => exact .cons (dpM e d _ h1) (dpsM e ds _ h2)
end
theorem sqT_same {K : Fg} {H H' : Hp} (e : Same H H') {a : Addr} {xs : List V} (hs : SqT K H a xs) : SqT K H' a xs := by
  rcases hs with (h | ⟨o, h⟩) | h
  · exact .inl (.inl (e _ _ h))
  · exact .inl (.inr ⟨o, e _ _ h⟩)
  · exact .inr h

def EnR (K : Fg) (Hi : Hp) (al : List Addr) : En → V → Prop
  | .d x, v => Dp K Hi v x
  | .p i, v => ∃ a, al[i]? = some a ∧ v = .ref a
def CR (K : Fg) (Hi : Hp) (al : List Addr) (a : Addr) : Option HO → Cl → Prop
  | _, .gone => True
  | some o, .ext R es => ∃ vs, R a o vs ∧ Paired (EnR K Hi al) es vs
  | some (.lst vs), .lst es => Paired (EnR K Hi al) es vs
  | some (.ins C _ gs), .ins C' fs => C = C' ∧ Paired (fun (f : Str × En) (g : Str × V) => f.1 = g.1 ∧ EnR K Hi al f.2 g.2) fs gs
  | _, _ => False

structure Wd (K : Fg) (Hi H : Hp) (al : List Addr) (S : List Cl) : Prop where
  ex : Same Hi H
  nd : al.Nodup
  len : al.length = S.length
  on : ∀ a ∈ al, H a ≠ none
  cells : ∀ (i : Nat) (c : Cl) (a : Addr), S[i]? = some c → al[i]? = some a → c ≠ .gone → Hi a = none ∧ CR K Hi al a (H a) c
structure Nx (Hi H : Hp) (al : List Addr) (Hi' H' : Hp) (al' : List Addr) : Prop where
  ex : Same Hi Hi'
  hh : Same Hi' H'
  on : ∀ a ∈ al', H' a ≠ none
  pre : ∃ be, al' = al ++ be ∧ ∀ a ∈ be, H a = none
  fr : ∀ q, Hi q = none → H q ≠ none → q ∉ al → Hi' q = none ∧ H' q = H q
section
variable {K : Fg} {Hi H Hi' H' Hi2 H2 : Hp} {al al' al2 : List Addr} {S S' : List Cl} {e : En} {v : V}
theorem Nx.refl (w : Wd K Hi H al S) : Nx Hi H al Hi H al := ⟨Same.refl _, w.ex, w.on, ⟨[], by simp, by simp⟩, fun q h _ _ => ⟨h, rfl⟩⟩
theorem Nx.back (n : Nx Hi H al Hi' H' al') {a : Addr} (h : H' a = none) (ha : a ∉ al) : H a = none := by
  cases q : H a with
  | none => rfl
  | some o =>
    cases r : Hi a with
    | some u => exact absurd (n.hh _ _ (n.ex _ _ r)) (by rw [h]; exact fun z => nomatch z)
    | none =>
      obtain ⟨_, z⟩ := n.fr a r (by rw [q]; exact fun z => nomatch z) ha
      rw [h, q] at z; cases z
theorem Nx.trans (n : Nx Hi H al Hi' H' al') (m : Nx Hi' H' al' Hi2 H2 al2) : Nx Hi H al Hi2 H2 al2 := by
  obtain ⟨be, e1, hb⟩ := n.pre
  obtain ⟨be', e2, hb'⟩ := m.pre
  refine ⟨n.ex.trans m.ex, m.hh, m.on, ⟨be ++ be', by rw [e2, e1, List.append_assoc], fun a ha => ?_⟩, fun q h1 h2 h3 => ?_⟩
  · rcases List.mem_append.mp ha with z | z
    · exact hb a z
    · refine n.back (hb' a z) fun hal => ?_
      exact n.on a (by rw [e1]; exact List.mem_append_left _ hal) (hb' a z)
  · obtain ⟨z1, z2⟩ := n.fr q h1 h2 h3
    have hq : q ∉ al' := fun hm => by
      rw [e1] at hm
      rcases List.mem_append.mp hm with z | z
      · exact h3 z
      · exact h2 (hb q z)
    obtain ⟨z3, z4⟩ := m.fr q z1 (by rw [z2]; exact h2) hq
    exact ⟨z3, z4.trans z2⟩
theorem EnR.mono (n : Nx Hi H al Hi' H' al') (h : EnR K Hi al e v) : EnR K Hi' al' e v := by
  cases e with
  | d x => exact dpM n.ex x v h
  | p i =>
    obtain ⟨a, h1, h2⟩ := h
    obtain ⟨be, e1, _⟩ := n.pre
    refine ⟨a, ?_, h2⟩
    rw [e1, List.getElem?_append_left (List.getElem?_eq_some_iff.mp h1).1]
    exact h1
/-- the values of the slots -/
structure Sl (K : Fg) (Hi : Hp) (al : List Addr) (G : List (Option En)) (σ : L2.St) : Prop where
  len : σ.length = G.length
  get : ∀ (i : Nat) (e : En), G[i]? = some (some e) → ∃ v, σ[i]? = some (some v) ∧ EnR K Hi al e v
variable {G G' : List (Option En)} {σ σ' : L2.St}
theorem Sl.mono (n : Nx Hi H al Hi' H' al') (s : Sl K Hi al G σ) : Sl K Hi' al' G σ :=
  ⟨s.len, fun i e h => let ⟨v, h1, h2⟩ := s.get i e h; ⟨v, h1, h2.mono n⟩⟩
theorem Sl.set (s : Sl K Hi al G σ) (i : Nat) (r : EnR K Hi al e v) : Sl K Hi al (G.set i (some e)) (σ.set i (some v)) := by
  refine ⟨by simp [s.len], fun j f h => ?_⟩
  by_cases hj : i = j
  · subst hj
    have hl : i < G.length := by
      have := (List.getElem?_eq_some_iff.mp h).1
      simpa using this
    rw [List.getElem?_set_self hl] at h
    cases h
    exact ⟨v, by rw [List.getElem?_set_self (by rw [s.len]; exact hl)], r⟩
  · rw [List.getElem?_set_ne hj] at h ⊢
    exact s.get j f h
theorem Sl.forget (s : Sl K Hi al G σ) (hl : G'.length = G.length) (h : ∀ (i : Nat) (e : En), G'[i]? = some (some e) → G[i]? = some (some e)) : Sl K Hi al G' σ :=
  ⟨s.len.trans hl.symm, fun i e q => s.get i e (h i e q)⟩

theorem CR.mono {c : Cl} {o : Option HO} {a : Addr} (n : Nx Hi H al Hi' H' al') (h : CR K Hi al a o c) : CR K Hi' al' a o c := by
  cases c with
  | gone => trivial
  | lst es =>
    cases o with
    | none => cases h
    | some o =>
      cases o <;> first | exact h.elim | exact paired_imp (fun _ _ r => EnR.mono n r) h
  | ins C fs =>
    cases o with
    | none => cases h
    | some o =>
      cases o <;> first | exact h.elim | exact ⟨h.1, paired_imp (fun _ _ r => ⟨r.1, EnR.mono n r.2⟩) h.2⟩
  | ext R es =>
    cases o with
    | none => cases h
    | some o =>
      have h' : ∃ vs, R a o vs ∧ Paired (EnR K Hi al) es vs := by cases o <;> exact h
      obtain ⟨vs, h1, h2⟩ := h'
      have g : ∃ vs, R a o vs ∧ Paired (EnR K Hi' al') es vs := ⟨vs, h1, paired_imp (fun _ _ r => EnR.mono n r) h2⟩
      cases o <;> exact g
/-- new data -/
theorem Wd.data {p : Addr} {o : HO} (w : Wd K Hi H al S) (hp : H p = none) : Wd K (upd Hi p o) (upd H p o) al S ∧ Nx Hi H al (upd Hi p o) (upd H p o) al := by
  have hi : Hi p = none := w.ex.free hp
  have hpa : p ∉ al := fun z => w.on p z hp
  have s1 : Same Hi (upd Hi p o) := fun b u q => by rw [upd_ne (ne_of_none q hi)]; exact q
  have s2 : Same (upd Hi p o) (upd H p o) := fun b u q => by
    by_cases hb : b = p
    · subst hb; rw [upd_same] at q ⊢; exact q
    · rw [upd_ne hb] at q ⊢; exact w.ex _ _ q
  have on : ∀ a ∈ al, upd H p o a ≠ none := fun a ha => by
    have hq : a ≠ p := fun z => hpa (z ▸ ha)
    rw [upd_ne hq]; exact w.on a ha
  have n : Nx Hi H al (upd Hi p o) (upd H p o) al := ⟨s1, s2, on, ⟨[], by simp, by simp⟩, fun q h1 h2 h3 => by
    have hq : q ≠ p := fun z => h2 (z ▸ hp)
    rw [upd_ne hq, upd_ne hq]; exact ⟨h1, rfl⟩⟩
  refine ⟨⟨s2, w.nd, w.len, on, fun i c a h1 h2 h3 => ?_⟩, n⟩
  have ha : a ≠ p := fun z => hpa (z ▸ List.mem_of_getElem? h2)
  obtain ⟨z1, z2⟩ := w.cells i c a h1 h2 h3
  rw [upd_ne ha, upd_ne ha]
  exact ⟨z1, z2.mono n⟩
/-- a new cell -/
theorem Wd.cell {p : Addr} {o : HO} {c : Cl} (w : Wd K Hi H al S) (hp : H p = none) (hc : CR K Hi (al ++ [p]) p (some o) c) : Wd K Hi (upd H p o) (al ++ [p]) (S ++ [c]) ∧ Nx Hi H al Hi (upd H p o) (al ++ [p]) := by
  have hi : Hi p = none := w.ex.free hp
  have hpa : p ∉ al := fun z => w.on p z hp
  have s2 : Same Hi (upd H p o) := fun b u q => by rw [upd_ne (ne_of_none q hi)]; exact w.ex _ _ q
  have on : ∀ a ∈ al ++ [p], upd H p o a ≠ none := fun a ha => by
    by_cases e : a = p
    · subst e; rw [upd_same]; exact fun z => nomatch z
    · rw [upd_ne e]
      rcases List.mem_append.mp ha with z | z
      · exact w.on a z
      · exact absurd (List.mem_singleton.mp z) e
  have n : Nx Hi H al Hi (upd H p o) (al ++ [p]) := ⟨Same.refl _, s2, on, ⟨[p], rfl, fun a ha => by rw [List.mem_singleton.mp ha]; exact hp⟩, fun q h1 h2 h3 => by
    have hq : q ≠ p := fun z => h2 (z ▸ hp)
    rw [upd_ne hq]; exact ⟨h1, rfl⟩⟩
  refine ⟨⟨s2, ?_, by simp [w.len], on, fun i c' a h1 h2 h3 => ?_⟩, n⟩
  · rw [List.nodup_append]
    exact ⟨w.nd, by simp, fun a ha b hb => by rw [List.mem_singleton.mp hb]; exact fun z => hpa (z ▸ ha)⟩
  · by_cases hl : i < S.length
    · rw [List.getElem?_append_left hl] at h1
      rw [List.getElem?_append_left (by rw [w.len]; exact hl)] at h2
      have ha : a ≠ p := fun z => hpa (z ▸ List.mem_of_getElem? h2)
      obtain ⟨z1, z2⟩ := w.cells i c' a h1 h2 h3
      rw [upd_ne ha]
      exact ⟨z1, z2.mono n⟩
    · have hl' : i = S.length := by
        have := (List.getElem?_eq_some_iff.mp h1).1
        simp at this; omega
      subst hl'
      rw [List.getElem?_append_right (Nat.le_refl _)] at h1
      rw [← w.len, List.getElem?_append_right (Nat.le_refl _)] at h2
      simp at h1 h2
      subst h1; subst h2
      rw [upd_same]
      exact ⟨hi, hc⟩
/-- a cell written -/
theorem Wd.write {i : Nat} {a : Addr} {c c' : Cl} {o : HO} (w : Wd K Hi H al S) (hs : S[i]? = some c) (ha : al[i]? = some a) (hg : c ≠ .gone) (hc : CR K Hi al a (some o) c') : Wd K Hi (upd H a o) al (S.set i c') ∧ Nx Hi H al Hi (upd H a o) al := by
  obtain ⟨hi, _⟩ := w.cells i c a hs ha hg
  have s2 : Same Hi (upd H a o) := fun b u q => by rw [upd_ne (ne_of_none q hi)]; exact w.ex _ _ q
  have on : ∀ b ∈ al, upd H a o b ≠ none := fun b hb => by
    by_cases e : b = a
    · subst e; rw [upd_same]; exact fun z => nomatch z
    · rw [upd_ne e]; exact w.on b hb
  have n : Nx Hi H al Hi (upd H a o) al := ⟨Same.refl _, s2, on, ⟨[], by simp, by simp⟩, fun q h1 h2 h3 => by
    have hq : q ≠ a := fun z => h3 (z ▸ List.mem_of_getElem? ha)
    rw [upd_ne hq]; exact ⟨h1, rfl⟩⟩
  refine ⟨⟨s2, w.nd, by simp [w.len], on, fun j c2 b h1 h2 h3 => ?_⟩, n⟩
  by_cases hj : i = j
  · subst hj
    rw [ha] at h2; cases h2
    rw [List.getElem?_set_self (List.getElem?_eq_some_iff.mp hs).1] at h1
    cases h1
    rw [upd_same]
    exact ⟨hi, hc⟩
  · rw [List.getElem?_set_ne hj] at h1
    have hb : b ≠ a := fun z => by
      subst z
      obtain ⟨l1, e1⟩ := List.getElem?_eq_some_iff.mp ha
      obtain ⟨l2, e2⟩ := List.getElem?_eq_some_iff.mp h2
      exact hj ((List.getElem_inj w.nd).mp (e1.trans e2.symm))
    rw [upd_ne hb]
    exact w.cells j c2 b h1 h2 h3
/-- a list's cell becomes data -/
theorem Wd.freeze {i : Nat} {a : Addr} {es : List PyData} (w : Wd K Hi H al S) (hs : S[i]? = some (.lst (es.map .d))) (ha : al[i]? = some a) : ∃ Hi', Wd K Hi' H al (S.set i .gone) ∧ Nx Hi H al Hi' H al ∧ Dp K Hi' (.ref a) (.list es) := by
  obtain ⟨hi, hc⟩ := w.cells i _ a hs ha (fun z => nomatch z)
  cases q : H a with
  | none => rw [q] at hc; exact hc.elim
  | some o =>
    rw [q] at hc
    cases o with
    | lst vs =>
      have s1 : Same Hi (upd Hi a (.lst vs)) := fun b u r => by rw [upd_ne (ne_of_none r hi)]; exact r
      have s2 : Same (upd Hi a (.lst vs)) H := fun b u r => by
        by_cases e : b = a
        · subst e; rw [upd_same] at r; rw [q]; exact r
        · rw [upd_ne e] at r; exact w.ex _ _ r
      have n : Nx Hi H al (upd Hi a (.lst vs)) H al := ⟨s1, s2, w.on, ⟨[], by simp, by simp⟩, fun q h1 h2 h3 => by
        have hq : q ≠ a := fun z => h3 (z ▸ List.mem_of_getElem? ha)
        rw [upd_ne hq]; exact ⟨h1, rfl⟩⟩
      refine ⟨_, ⟨s2, w.nd, by simp [w.len], w.on, fun j c2 b h1 h2 h3 => ?_⟩, n, ?_⟩
      · by_cases hj : i = j
        · subst hj
          rw [List.getElem?_set_self (List.getElem?_eq_some_iff.mp hs).1] at h1
          cases h1; exact absurd rfl h3
        · rw [List.getElem?_set_ne hj] at h1
          have hb : b ≠ a := fun z => by
            subst z
            obtain ⟨l1, e1⟩ := List.getElem?_eq_some_iff.mp ha
            obtain ⟨l2, e2⟩ := List.getElem?_eq_some_iff.mp h2
            exact hj ((List.getElem_inj w.nd).mp (e1.trans e2.symm))
          obtain ⟨z1, z2⟩ := w.cells j c2 b h1 h2 h3
          rw [upd_ne hb]
          exact ⟨z1, z2.mono n⟩
      · refine .lst (SqL.of upd_same) ?_
        have go : ∀ {es : List PyData} {vs' : List V}, Paired (EnR K Hi al) (es.map .d) vs' → DpAll K (upd Hi a (.lst vs)) vs' es := by
          intro es
          induction es with
          | nil => intro vs' h; cases h; exact .nil
          | cons d es ih =>
            intro vs' h
            cases h with
            | cons r t => exact .cons (dpM s1 _ _ r) (ih t)
        exact go hc
    | _ => exact hc.elim
/-- pointers of an entry, of a cell, below n -/
def En.lo (n : Nat) : En → Bool
  | .d _ => true
  | .p i => decide (i < n)
def Cl.lo (n : Nat) : Cl → Bool
  | .gone => true
  | .lst es => es.all (En.lo n)
  | .ins _ fs => fs.all fun f => En.lo n f.2
  | .ext _ es => es.all (En.lo n)
theorem CR.ext_some {a : Addr} {o : HO} {R : Addr → HO → List V → Prop} {es : List En} : CR K Hi al a (some o) (.ext R es) = ∃ vs, R a o vs ∧ Paired (EnR K Hi al) es vs := by cases o <;> rfl
theorem CR.ext_get {a : Addr} {o : Option HO} {R : Addr → HO → List V → Prop} {es : List En} (h : CR K Hi al a o (.ext R es)) : ∃ o' vs, o = some o' ∧ R a o' vs ∧ Paired (EnR K Hi al) es vs := by
  cases o with
  | none => cases h
  | some o =>
    rw [CR.ext_some] at h
    obtain ⟨vs, h1, h2⟩ := h
    exact ⟨o, vs, rfl, h1, h2⟩
theorem EnR.lo {be : List Addr} (h : EnR K Hi (al ++ be) e v) (hl : e.lo al.length = true) : EnR K Hi al e v := by
  cases e with
  | d x => exact h
  | p i =>
    obtain ⟨a, h1, h2⟩ := h
    have : i < al.length := of_decide_eq_true hl
    rw [List.getElem?_append_left this] at h1
    exact ⟨a, h1, h2⟩
theorem paired_lo {be : List Addr} : ∀ {es : List En} {vs : List V}, Paired (EnR K Hi (al ++ be)) es vs → es.all (En.lo al.length) = true → Paired (EnR K Hi al) es vs
  | _, _, .nil, _ => .nil
  | _, _, .cons r t, h => by
    rw [List.all_cons, Bool.and_eq_true] at h
    exact .cons (r.lo h.1) (paired_lo t h.2)
theorem paired_loF {be : List Addr} : ∀ {fs : List (Str × En)} {gs : List (Str × V)}, Paired (fun (f : Str × En) (g : Str × V) => f.1 = g.1 ∧ EnR K Hi (al ++ be) f.2 g.2) fs gs → (fs.all fun f => En.lo al.length f.2) = true →
    Paired (fun (f : Str × En) (g : Str × V) => f.1 = g.1 ∧ EnR K Hi al f.2 g.2) fs gs
  | _, _, .nil, _ => .nil
  | _, _, .cons r t, h => by
    rw [List.all_cons, Bool.and_eq_true] at h
    exact .cons ⟨r.1, r.2.lo h.1⟩ (paired_loF t h.2)
/-- the last cells are forgotten -/
theorem Wd.drop {T : List Cl} (w : Wd K Hi H al' (S ++ T)) (hl : S.all (Cl.lo S.length) = true) : Wd K Hi H (al'.take S.length) S := by
  have hlen : al'.length = S.length + T.length := by rw [w.len]; simp
  have e : al' = al'.take S.length ++ al'.drop S.length := (List.take_append_drop _ _).symm
  have hL : (al'.take S.length).length = S.length := by rw [List.length_take]; omega
  refine ⟨w.ex, w.nd.sublist (List.take_sublist _ _), hL, fun a ha => w.on a (List.mem_of_mem_take ha), fun i c a h1 h2 h3 => ?_⟩
  have hi : i < S.length := (List.getElem?_eq_some_iff.mp h1).1
  have h2' : al'[i]? = some a := by
    rw [List.getElem?_take_of_lt hi] at h2; exact h2
  obtain ⟨z1, z2⟩ := w.cells i c a (by rw [List.getElem?_append_left hi]; exact h1) h2' h3
  refine ⟨z1, ?_⟩
  have hc : c.lo S.length = true := List.all_eq_true.mp hl c (List.mem_of_getElem? h1)
  rw [e] at z2
  cases c with
  | gone => trivial
  | lst es =>
    cases q : H a with
    | none => rw [q] at z2; exact z2.elim
    | some o =>
      rw [q] at z2
      cases o <;> first | exact z2.elim | exact paired_lo z2 (by rw [hL]; exact hc)
  | ins C fs =>
    cases q : H a with
    | none => rw [q] at z2; exact z2.elim
    | some o =>
      rw [q] at z2
      cases o <;> first | exact z2.elim | exact ⟨z2.1, paired_loF z2.2 (by rw [hL]; exact hc)⟩
  | ext R es =>
    obtain ⟨o', vs, q, h4, h5⟩ := z2.ext_get
    rw [q, CR.ext_some]
    exact ⟨vs, h4, paired_lo h5 (by rw [hL]; exact hc)⟩
theorem Nx.drop {n : Nat} (m : Nx Hi H al Hi' H' al') (hn : al.length ≤ n) : Nx Hi H al Hi' H' (al'.take n) := by
  obtain ⟨be, e, hb⟩ := m.pre
  refine ⟨m.ex, m.hh, fun a ha => m.on a (List.mem_of_mem_take ha), ⟨be.take (n - al.length), ?_, fun a ha => hb a (List.mem_of_mem_take ha)⟩, m.fr⟩
  rw [e, List.take_append, List.take_of_length_le hn]
theorem EnR.below {e : En} {v : V} (h : EnR K Hi al e v) : e.lo al.length = true := by
  cases e with
  | d x => rfl
  | p i =>
    obtain ⟨a, h1, _⟩ := h
    exact decide_eq_true (List.getElem?_eq_some_iff.mp h1).1
theorem paired_below {es : List En} {vs : List V} : Paired (EnR K Hi al) es vs → es.all (En.lo al.length) = true
  | .nil => rfl
  | .cons r t => by rw [List.all_cons, r.below, paired_below t]; rfl
theorem Wd.lo (w : Wd K Hi H al S) : S.all (Cl.lo S.length) = true := by
  refine List.all_eq_true.mpr fun c hc => ?_
  obtain ⟨i, hi⟩ := List.mem_iff_getElem?.mp hc
  have hl : i < al.length := by rw [w.len]; exact (List.getElem?_eq_some_iff.mp hi).1
  cases c with
  | gone => rfl
  | lst es =>
    obtain ⟨_, z⟩ := w.cells i _ al[i] hi (by simp [hl]) (fun z => nomatch z)
    cases q : H al[i] with
    | none => rw [q] at z; exact z.elim
    | some o =>
      rw [q] at z
      cases o <;> first | exact z.elim | (show es.all (En.lo S.length) = true; rw [← w.len]; exact paired_below z)
  | ins C fs =>
    obtain ⟨_, z⟩ := w.cells i _ al[i] hi (by simp [hl]) (fun z => nomatch z)
    cases q : H al[i] with
    | none => rw [q] at z; exact z.elim
    | some o =>
      rw [q] at z
      cases o with
      | ins C' dx gs =>
        have go : ∀ {fs : List (Str × En)} {gs : List (Str × V)}, Paired (fun (f : Str × En) (g : Str × V) => f.1 = g.1 ∧ EnR K Hi al f.2 g.2) fs gs → (fs.all fun f => En.lo al.length f.2) = true := by
          intro fs
          induction fs with
          | nil => intro gs _; rfl
          | cons f fs ih =>
            intro gs h
            cases h with
            | cons r t => rw [List.all_cons, r.2.below, ih t]; rfl
        show (fs.all fun f => En.lo S.length f.2) = true
        rw [← w.len]
        exact go z.2
      | _ => exact z.elim
  | ext R es =>
    obtain ⟨_, z⟩ := w.cells i _ al[i] hi (by simp [hl]) (fun z => nomatch z)
    obtain ⟨o', vs, q, h4, h5⟩ := z.ext_get
    show es.all (En.lo S.length) = true
    rw [← w.len]; exact paired_below h5
end
end AF

set_option Elab.async false
set_option linter.all false
set_option maxRecDepth 100000
set_option maxHeartbeats 4000000
namespace AF
open PySem PySem.Spec PyProof.Rows L2

section
variable {X : Cx} {e : Expr} {es : List Expr} {st : Stmt} {sts : List Stmt}
theorem pe_wk {t t' : TE} (h : PE X e t) (hh : ∀ σ H Q, t' σ H Q → t σ H Q) : PE X e t' := ⟨fun pins s σ H Q I q => h.run pins s σ H Q I (hh σ H Q q)⟩
theorem pt_wk {t t' : TT} (h : PT X e t) (hh : ∀ σ H Q, t' σ H Q → t σ H Q) : PT X e t' := ⟨fun pins s σ H Q I q => h.run pins s σ H Q I (hh σ H Q q)⟩
theorem pw_wk {t t' : TT} (h : PW X e t) (hh : ∀ σ H Q, t' σ H Q → t σ H Q) : PW X e t' := ⟨fun wh pins s σ H Q I q => h.run wh pins s σ H Q I (hh σ H Q q)⟩
theorem pa_wk {t t' : TA} (h : PA X es t) (hh : ∀ σ H Q, t' σ H Q → t σ H Q) : PA X es t' := ⟨fun pos pins s σ H Q I q => h.run pos pins s σ H Q I (hh σ H Q q)⟩
theorem ps_wk {t t' : TS} (h : PS X st t) (hh : ∀ D σ H, t' D σ H → t D σ H) : PS X st t' := ⟨fun pins s σ H D I q => h.run pins s σ H D I (hh D σ H q)⟩
theorem pss_wk {t t' : TS} (h : PSs X sts t) (hh : ∀ D σ H, t' D σ H → t D σ H) : PSs X sts t' := ⟨fun pins s σ H D I q => h.run pins s σ H D I (hh D σ H q)⟩
theorem pi_wk {tg iter : Expr} {t t' : TI} (h : PI X tg iter t) (hh : ∀ σ H R, t' σ H R → t σ H R) : PI X tg iter t' := ⟨fun pins s σ H R I q => h.run pins s σ H R I (hh σ H R q)⟩
theorem pe_all {A : Type} {t : A → TE} (h : ∀ a, PE X e (t a)) : PE X e (fun σ H Q => ∃ a, t a σ H Q) := ⟨fun pins s σ H Q I ⟨a, q⟩ => (h a).run pins s σ H Q I q⟩
theorem pt_all {A : Type} {t : A → TT} (h : ∀ a, PT X e (t a)) : PT X e (fun σ H Q => ∃ a, t a σ H Q) := ⟨fun pins s σ H Q I ⟨a, q⟩ => (h a).run pins s σ H Q I q⟩
theorem pss_all {A : Type} {t : A → TS} (h : ∀ a, PSs X sts (t a)) : PSs X sts (fun D σ H => ∃ a, t a D σ H) := ⟨fun pins s σ H D I ⟨a, q⟩ => (h a).run pins s σ H D I q⟩
theorem pts_all {ifs : List Expr} {A : Type} {t : A → TT} (h : ∀ a, PTs X ifs (t a)) : PTs X ifs (fun σ H Q => ∃ a, t a σ H Q) := ⟨fun pins s σ H Q I ⟨a, q⟩ => (h a).run pins s σ H Q I q⟩
end

abbrev Gm := List (Option En)
def rE (K : Fg) (G : Gm) (S : List Cl) (e : En) (S' : List Cl) : TE := fun σ H Q => ∃ Hi al, Wd K Hi H al S ∧ Sl K Hi al G σ ∧
  ∀ Hi' H' al' v, Nx Hi H al Hi' H' al' → Wd K Hi' H' al' S' → EnR K Hi' al' e v → Q v H'
def rA (K : Fg) (G : Gm) (S : List Cl) (es : List En) (S' : List Cl) : TA := fun σ H Q => ∃ Hi al, Wd K Hi H al S ∧ Sl K Hi al G σ ∧
  ∀ Hi' H' al' vs, Nx Hi H al Hi' H' al' → Wd K Hi' H' al' S' → Paired (EnR K Hi' al') es vs → Q vs H'
def rT (K : Fg) (G : Gm) (S : List Cl) (b : Bool) (S' : List Cl) : TT := fun σ H Q => ∃ Hi al, Wd K Hi H al S ∧ Sl K Hi al G σ ∧
  ∀ Hi' H' al', Nx Hi H al Hi' H' al' → Wd K Hi' H' al' S' → Q b H'
abbrev DE (X : Cx) (G : Gm) (S : List Cl) (ex : Expr) (e : En) (S' : List Cl) : Prop := PE X ex (rE X.K G S e S')
abbrev DA (X : Cx) (G : Gm) (S : List Cl) (ex : List Expr) (es : List En) (S' : List Cl) : Prop := PA X ex (rA X.K G S es S')
abbrev DT (X : Cx) (G : Gm) (S : List Cl) (ex : Expr) (b : Bool) (S' : List Cl) : Prop := PT X ex (rT X.K G S b S')
abbrev DW (X : Cx) (G : Gm) (S : List Cl) (ex : Expr) (b : Bool) (S' : List Cl) : Prop := PW X ex (rT X.K G S b S')

/-! ### operations on values -/
def RV1 (K : Fg) (r : V → Hp → VK → Prop) (S : List Cl) (x z : En) (S' : List Cl) : Prop := ∀ Hi H al v Q, Wd K Hi H al S → EnR K Hi al x v →
  (∀ Hi' H' al' w, Nx Hi H al Hi' H' al' → Wd K Hi' H' al' S' → EnR K Hi' al' z w → Q w H') → r v H Q
def RV2 (K : Fg) (r : R2) (S : List Cl) (x y z : En) (S' : List Cl) : Prop := ∀ Hi H al v u Q, Wd K Hi H al S → EnR K Hi al x v → EnR K Hi al y u →
  (∀ Hi' H' al' w, Nx Hi H al Hi' H' al' → Wd K Hi' H' al' S' → EnR K Hi' al' z w → Q w H') → r v u H Q
def RVn (K : Fg) (r : List V → Hp → VK → Prop) (S : List Cl) (xs : List En) (z : En) (S' : List Cl) : Prop := ∀ Hi H al vs Q, Wd K Hi H al S → Paired (EnR K Hi al) xs vs →
  (∀ Hi' H' al' w, Nx Hi H al Hi' H' al' → Wd K Hi' H' al' S' → EnR K Hi' al' z w → Q w H') → r vs H Q
def RVm (K : Fg) (r : V → List V → Hp → VK → Prop) (S : List Cl) (x : En) (xs : List En) (z : En) (S' : List Cl) : Prop := ∀ Hi H al v vs Q, Wd K Hi H al S → EnR K Hi al x v → Paired (EnR K Hi al) xs vs →
  (∀ Hi' H' al' w, Nx Hi H al Hi' H' al' → Wd K Hi' H' al' S' → EnR K Hi' al' z w → Q w H') → r v vs H Q

section
variable {X : Cx} {G : Gm} {S S1 S2 S3 : List Cl} {x y z : En} {a b c ex : Expr} {es : List Expr} {pos : Pos} {ys : List En}
theorem de_var {i : Nat} {nm : Str} (hg : G[i]? = some (some x)) (hN : X.N[i]? = some nm := by rfl) (hv : Vis X.env.scope nm := by first | exact Or.inl rfl | exact Or.inr (Or.inl rfl) | exact Or.inr (Or.inr rfl))
    (hd : (nm == ("__debug__" : Str)) = false := by decide) (hcd : (nm == ("__classdict__" : Str)) = false := by decide) : DE X G S (.Name nm pos) x S :=
  pe_wk (pe_var (i := i) hN hv hd hcd) fun σ H Q ⟨Hi, al, w, s, k⟩ => by
    obtain ⟨v, h1, h2⟩ := s.get i x hg
    exact ⟨v, h1, k _ _ _ v (Nx.refl w) w h2⟩
theorem de_c {t : TE} {v : V} {d : PyData} (h : PE X ex (tC v)) (hd : ∀ K H, Dp K H v d) : DE X G S ex (.d d) S :=
  pe_wk h fun σ H Q ⟨Hi, al, w, s, k⟩ => k _ _ _ v (Nx.refl w) w (hd _ _)
theorem de_int {i : Int} {j} : DE X G S (.Constant (.int i) j pos) (.d (.int i)) S := de_c (t := tC (.int i)) pe_int fun _ _ => .int i
theorem de_bool {i : Bool} {j} : DE X G S (.Constant (.bool i) j pos) (.d (.bool i)) S := de_c (t := tC (.bl i)) pe_bl fun _ _ => .bl i
theorem de_none {j} : DE X G S (.Constant .none j pos) (.d .none) S := de_c (t := tC .non) pe_non fun _ _ => .non
theorem de_str {i : Str} {j} : DE X G S (.Constant (.str i) j pos) (.d (.str i)) S := de_c (t := tC (.str i)) pe_str fun _ _ => .str i
theorem de_bin {op : Operator} {r : R2} (ho : OpR X (binaryOp op) r) (hr : RV2 X.K r S2 x y z S3) (ha : DE X G S a x S1) (hb : DE X G S1 b y S2) : DE X G S (.BinOp a op b pos) z S3 :=
  pe_wk (pe_op ho ha hb) fun σ H Q ⟨Hi, al, w, s, k⟩ => ⟨Hi, al, w, s, fun Hi1 H1 al1 v n1 w1 r1 => ⟨Hi1, al1, w1, s.mono n1, fun Hi2 H2 al2 u n2 w2 r2 =>
    hr Hi2 H2 al2 v u Q w2 (r1.mono n2) r2 fun Hi3 H3 al3 w' n3 w3 r3 => k _ _ _ _ ((n1.trans n2).trans n3) w3 r3⟩⟩
theorem de_cmp {op : CmpOp} {r : R2} (ho : OpR X (compareOp op) r) (hr : RV2 X.K r S2 x y z S3) (ha : DE X G S a x S1) (hb : DE X G S1 b y S2) (hm : behindInMarks op b = false := by first | exact nomark _ | rfl) : DE X G S (.Compare a [op] [b] pos) z S3 :=
  pe_wk (pe_cmpR ho ha hb hm) fun σ H Q ⟨Hi, al, w, s, k⟩ => ⟨Hi, al, w, s, fun Hi1 H1 al1 v n1 w1 r1 => ⟨Hi1, al1, w1, s.mono n1, fun Hi2 H2 al2 u n2 w2 r2 =>
    hr Hi2 H2 al2 v u Q w2 (r1.mono n2) r2 fun Hi3 H3 al3 w' n3 w3 r3 => k _ _ _ _ ((n1.trans n2).trans n3) w3 r3⟩⟩
theorem dt_cmp {op : CmpOp} {r : R2} {t : Bool} (ho : OpR X (compareOp op) r) (hr : RV2 X.K r S2 x y (.d (.bool t)) S3) (ha : DE X G S a x S1) (hb : DE X G S1 b y S2) (hm : behindInMarks op b = false := by first | exact nomark _ | rfl) : DT X G S (.Compare a [op] [b] pos) t S3 :=
  pt_wk (pt_cmpR ho ha hb hm) fun σ H Q ⟨Hi, al, w, s, k⟩ => ⟨Hi, al, w, s, fun Hi1 H1 al1 v n1 w1 r1 => ⟨Hi1, al1, w1, s.mono n1, fun Hi2 H2 al2 u n2 w2 r2 =>
    hr Hi2 H2 al2 v u _ w2 (r1.mono n2) r2 fun Hi3 H3 al3 w' n3 w3 r3 => ⟨t, by cases r3; rfl, k _ _ _ ((n1.trans n2).trans n3) w3⟩⟩⟩
theorem dt_val {t : Bool} (h : DE X G S ex (.d (.bool t)) S1) (he : ∀ whole, isTrue ex X.env whole = (do let v ← whole; standAt ex.pos; holding [v] (truthy v)) := by intro _; rfl) : DT X G S ex t S1 :=
  pt_wk (pt_val h he) fun σ H Q ⟨Hi, al, w, s, k⟩ => ⟨Hi, al, w, s, fun Hi1 H1 al1 v n1 w1 r1 => ⟨t, by cases r1; rfl, k _ _ _ n1 w1⟩⟩
theorem dt_not {t : Bool} (h : DT X G S a t S1) : DT X G S (.UnaryOp .Not a pos) (!t) S1 :=
  pt_wk (pt_not h) fun σ H Q ⟨Hi, al, w, s, k⟩ => ⟨Hi, al, w, s, fun Hi1 H1 al1 n1 w1 => k _ _ _ n1 w1⟩
theorem dw_and1 {t : Bool} (h : DT X G S a t S1) : DW X G S (.BoolOp .And [a] pos) t S1 := pw_and1 h
theorem dw_or1 {t : Bool} (h : DT X G S a t S1) : DW X G S (.BoolOp .Or [a] pos) t S1 := pw_or1 h
/-- a and b: b is asked where a holds; the cells as they are where it does not -/
theorem dw_and {t u : Bool} (h : DT X G S a t S1) (h2 : t = true → DW X G S1 (.BoolOp .And (b :: es) pos) u S1) : DW X G S (.BoolOp .And (a :: b :: es) pos) (t && u) S1 := by
  by_cases ht : t = true
  · subst ht
    exact pw_wk (pw_and h (h2 rfl)) fun σ H Q ⟨Hi, al, w, s, k⟩ => ⟨Hi, al, w, s, fun Hi1 H1 al1 n1 w1 => iteT ⟨Hi1, al1, w1, s.mono n1, fun _ _ _ n2 w2 => k _ _ _ (n1.trans n2) w2⟩⟩
  · have ht' : t = false := by cases t <;> simp_all
    subst ht'
    exact pw_wk (pw_and h (tB' := fun _ _ _ => False) ⟨fun _ _ _ _ _ _ _ z => z.elim⟩) fun σ H Q ⟨Hi, al, w, s, k⟩ => ⟨Hi, al, w, s, fun Hi1 H1 al1 n1 w1 => iteF (k _ _ _ n1 w1)⟩
theorem dw_or {t u : Bool} (h : DT X G S a t S1) (h2 : t = false → DW X G S1 (.BoolOp .Or (b :: es) pos) u S1) : DW X G S (.BoolOp .Or (a :: b :: es) pos) (t || u) S1 := by
  by_cases ht : t = true
  · subst ht
    exact pw_wk (pw_or h (tB' := fun _ _ _ => False) ⟨fun _ _ _ _ _ _ _ z => z.elim⟩) fun σ H Q ⟨Hi, al, w, s, k⟩ => ⟨Hi, al, w, s, fun Hi1 H1 al1 n1 w1 => iteT (k _ _ _ n1 w1)⟩
  · have ht' : t = false := by cases t <;> simp_all
    subst ht'
    exact pw_wk (pw_or h (h2 rfl)) fun σ H Q ⟨Hi, al, w, s, k⟩ => ⟨Hi, al, w, s, fun Hi1 H1 al1 n1 w1 => iteF ⟨Hi1, al1, w1, s.mono n1, fun _ _ _ n2 w2 => k _ _ _ (n1.trans n2) w2⟩⟩
theorem dt_w {t : Bool} (h : DW X G S a t S1) : DT X G S a t S1 := h.pt
/-- and, or, not as values of bools -/
theorem de_one {op} (h : DE X G S a x S1) : DE X G S (.BoolOp op [a] pos) x S1 := pe_one h
theorem de_and {t u : Bool} (h : DE X G S a (.d (.bool t)) S1) (h2 : t = true → DE X G S1 (.BoolOp .And (b :: es) pos) (.d (.bool u)) S1) : DE X G S (.BoolOp .And (a :: b :: es) pos) (.d (.bool (t && u))) S1 := by
  by_cases ht : t = true
  · subst ht
    exact pe_wk (pe_and h (h2 rfl)) fun σ H Q ⟨Hi, al, w, s, k⟩ => ⟨Hi, al, w, s, fun Hi1 H1 al1 v n1 w1 r1 => ⟨true, by cases r1; rfl, iteT ⟨Hi1, al1, w1, s.mono n1, fun _ _ _ _ n2 w2 r2 => k _ _ _ _ (n1.trans n2) w2 r2⟩⟩⟩
  · have ht' : t = false := by cases t <;> simp_all
    subst ht'
    exact pe_wk (pe_and h (tb := fun _ _ _ => False) ⟨fun _ _ _ _ _ _ z => z.elim⟩) fun σ H Q ⟨Hi, al, w, s, k⟩ => ⟨Hi, al, w, s, fun Hi1 H1 al1 v n1 w1 r1 => ⟨false, by cases r1; rfl, iteF (k _ _ _ _ n1 w1 (.bl false))⟩⟩
theorem de_or {t u : Bool} (h : DE X G S a (.d (.bool t)) S1) (h2 : t = false → DE X G S1 (.BoolOp .Or (b :: es) pos) (.d (.bool u)) S1) : DE X G S (.BoolOp .Or (a :: b :: es) pos) (.d (.bool (t || u))) S1 := by
  by_cases ht : t = true
  · subst ht
    exact pe_wk (pe_or h (tb := fun _ _ _ => False) ⟨fun _ _ _ _ _ _ z => z.elim⟩) fun σ H Q ⟨Hi, al, w, s, k⟩ => ⟨Hi, al, w, s, fun Hi1 H1 al1 v n1 w1 r1 => ⟨true, by cases r1; rfl, iteT (k _ _ _ _ n1 w1 (.bl true))⟩⟩
  · have ht' : t = false := by cases t <;> simp_all
    subst ht'
    exact pe_wk (pe_or h (h2 rfl)) fun σ H Q ⟨Hi, al, w, s, k⟩ => ⟨Hi, al, w, s, fun Hi1 H1 al1 v n1 w1 r1 => ⟨false, by cases r1; rfl, iteF ⟨Hi1, al1, w1, s.mono n1, fun _ _ _ _ n2 w2 r2 => k _ _ _ _ (n1.trans n2) w2 r2⟩⟩⟩
theorem de_not {t : Bool} (h : DE X G S a (.d (.bool t)) S1) : DE X G S (.UnaryOp .Not a pos) (.d (.bool (!t))) S1 :=
  pe_wk (pe_not h) fun σ H Q ⟨Hi, al, w, s, k⟩ => ⟨Hi, al, w, s, fun Hi1 H1 al1 v n1 w1 r1 => ⟨t, by cases r1; rfl, k _ _ _ _ n1 w1 (.bl _)⟩⟩
theorem de_if {t : Bool} (hc : DT X G S c t S1) (ha : t = true → DE X G S1 a x S2) (hb : t = false → DE X G S1 b x S2) : DE X G S (.IfExp c a b pos) x S2 := by
  cases t with
  | true => exact pe_wk (pe_ifExp hc (ha rfl) (tb := fun _ _ _ => False) ⟨fun _ _ _ _ _ _ z => z.elim⟩) fun σ H Q ⟨Hi, al, w, s, k⟩ => ⟨Hi, al, w, s, fun Hi1 H1 al1 n1 w1 => iteT ⟨Hi1, al1, w1, s.mono n1, fun _ _ _ _ n2 w2 r2 => k _ _ _ _ (n1.trans n2) w2 r2⟩⟩
  | false => exact pe_wk (pe_ifExp hc (ta := fun _ _ _ => False) ⟨fun _ _ _ _ _ _ z => z.elim⟩ (hb rfl)) fun σ H Q ⟨Hi, al, w, s, k⟩ => ⟨Hi, al, w, s, fun Hi1 H1 al1 n1 w1 => iteF ⟨Hi1, al1, w1, s.mono n1, fun _ _ _ _ n2 w2 r2 => k _ _ _ _ (n1.trans n2) w2 r2⟩⟩
/-- a chain a op b op' c -/
theorem de_chain {op op' : CmpOp} {r r' : R2} {t u : Bool} {w' : En} (ho : OpR X (compareOp op) r) (ho' : OpR X (compareOp op') r') (hr : RV2 X.K r S2 x y (.d (.bool t)) S2) (hr' : t = true → RV2 X.K r' S2 y w' (.d (.bool u)) S2)
    (ha : DE X G S a x S1) (hb : DE X G S1 b y S2) (hc : t = true → DE X G S2 c w' S2) (hm : lastMarks [op, op'] [b, c] = false := by rfl) :
    DE X G S (.Compare a [op, op'] [b, c] pos) (.d (.bool (t && u))) S2 := by
  cases t with
  | true =>
    exact pe_wk (pe_chain ho ho' ha hb (hc rfl) hm) fun σ H Q ⟨Hi, al, w, s, k⟩ => ⟨Hi, al, w, s, fun Hi1 H1 al1 v n1 w1 r1 => ⟨Hi1, al1, w1, s.mono n1, fun Hi2 H2 al2 u2 n2 w2 r2 =>
      hr Hi2 H2 al2 v u2 _ w2 (r1.mono n2) r2 fun Hi3 H3 al3 v3 n3 w3 r3 => ⟨true, by cases r3; rfl, iteT ⟨Hi3, al3, w3, s.mono ((n1.trans n2).trans n3), fun Hi4 H4 al4 v4 n4 w4 r4 =>
        hr' rfl Hi4 H4 al4 u2 v4 Q w4 ((r2.mono n3).mono n4) r4 fun Hi5 H5 al5 v5 n5 w5 r5 => k _ _ _ _ ((((n1.trans n2).trans n3).trans n4).trans n5) w5 r5⟩⟩⟩⟩
  | false =>
    exact pe_wk (pe_chain (tc := fun _ _ _ => False) ho ho' ha hb ⟨fun _ _ _ _ _ _ z => z.elim⟩ hm) fun σ H Q ⟨Hi, al, w, s, k⟩ => ⟨Hi, al, w, s, fun Hi1 H1 al1 v n1 w1 r1 => ⟨Hi1, al1, w1, s.mono n1, fun Hi2 H2 al2 u2 n2 w2 r2 =>
      hr Hi2 H2 al2 v u2 _ w2 (r1.mono n2) r2 fun Hi3 H3 al3 v3 n3 w3 r3 => ⟨false, by cases r3; rfl, iteF (k _ _ _ _ ((n1.trans n2).trans n3) w3 (.bl false))⟩⟩⟩
/-! arguments -/
theorem da_nil : DA X G S [] [] S := pa_wk pa_nil fun σ H Q ⟨Hi, al, w, s, k⟩ => k _ _ _ [] (Nx.refl w) w .nil
theorem da_cons (ha : DE X G S a x S1) (hr : DA X G S1 es ys S2) (hs : starEach (a :: es) X.env = (false, eval a X.env) :: starEach es X.env := by rfl) : DA X G S (a :: es) (x :: ys) S2 :=
  pa_wk (pa_cons ha hr hs) fun σ H Q ⟨Hi, al, w, s, k⟩ => ⟨Hi, al, w, s, fun Hi1 H1 al1 v n1 w1 r1 => ⟨Hi1, al1, w1, s.mono n1, fun Hi2 H2 al2 vs n2 w2 r2 => k _ _ _ _ (n1.trans n2) w2 (.cons (r1.mono n2) r2)⟩⟩
/-- a tuple of data -/
theorem de_tup {ds : List PyData} {x1} (h : DA X G S es (ds.map .d) S1) (hl : ds.length ≤ 1000) : DE X G S (.Tuple es x1 pos) (.d (.tuple ds)) S1 :=
  pe_wk (pe_tup h) fun σ H Q ⟨Hi, al, w, s, k⟩ => ⟨Hi, al, w, s, fun Hi1 H1 al1 vs n1 w1 r1 => by
    have hlen := paired_len r1
    rw [List.length_map] at hlen
    refine ⟨by rw [← hlen]; exact Nat.le_trans hl (by decide), fun p hp => ?_⟩
    obtain ⟨w2, n2⟩ := w1.data (o := .tup vs) hp
    refine k _ _ _ _ (n1.trans n2) w2 (.tup (SqT.of upd_same) ?_)
    have go : ∀ {ds : List PyData} {vs' : List V}, Paired (EnR X.K Hi1 al1) (ds.map .d) vs' → DpAll X.K (upd Hi1 p (.tup vs)) vs' ds := by
      intro ds
      induction ds with
      | nil => intro vs' h; cases h; exact .nil
      | cons d ds ih =>
        intro vs' h
        cases h with
        | cons r t => exact .cons (dpM n2.ex _ _ r) (ih t)
    exact go r1⟩
/-- a new list -/
theorem de_lst (h : DA X G S es ys S1) (hl : ys.length ≤ 1000) : DE X G S (.List es pos) (.p S1.length) (S1 ++ [.lst ys]) :=
  pe_wk (pe_lst h) fun σ H Q ⟨Hi, al, w, s, k⟩ => ⟨Hi, al, w, s, fun Hi1 H1 al1 vs n1 w1 r1 => by
    have hlen := paired_len r1
    refine ⟨by rw [← hlen]; exact Nat.le_trans hl (by decide), fun p hp => ?_⟩
    have n2 := (w1.cell (c := .gone) (o := .lst vs) hp trivial).2
    obtain ⟨w2, n2⟩ := w1.cell (c := .lst ys) (o := .lst vs) hp (paired_imp (fun _ _ r => EnR.mono n2 r) r1)
    exact k _ _ _ _ (n1.trans n2) w2 ⟨p, by rw [← w1.len]; simp, rfl⟩⟩
/-- the last cells are forgotten -/
theorem de_drop {T : List Cl} (h : DE X G S a x (S1 ++ T)) (hx : x.lo S1.length = true) (hs : S.all (Cl.lo S.length) = true → S1.all (Cl.lo S1.length) = true) (hl : S.length ≤ S1.length) : DE X G S a x S1 :=
  pe_wk h fun σ H Q ⟨Hi, al, w, s, k⟩ => ⟨Hi, al, w, s, fun Hi1 H1 al1 v n1 w1 r1 => by
    have n2 := n1.drop (n := S1.length) (by rw [w.len]; exact hl)
    have w2 := w1.drop (hs w.lo)
    refine k _ _ _ v n2 w2 ?_
    have e : al1 = al1.take S1.length ++ al1.drop S1.length := (List.take_append_drop _ _).symm
    rw [e] at r1
    exact r1.lo (by rw [w2.len]; exact hx)⟩
/-- back to the cells at the start -/
theorem de_dropS {T : List Cl} {d : PyData} (h : DE X G S a (.d d) (S ++ T)) : DE X G S a (.d d) S := de_drop h rfl id (Nat.le_refl _)
/-- a list's cell becomes data -/
theorem de_frz {i : Nat} {ds : List PyData} (h : DE X G S a (.p i) S1) (hc : S1[i]? = some (.lst (ds.map .d))) : DE X G S a (.d (.list ds)) (S1.set i .gone) :=
  pe_wk h fun σ H Q ⟨Hi, al, w, s, k⟩ => ⟨Hi, al, w, s, fun Hi1 H1 al1 v n1 w1 r1 => by
    obtain ⟨ad, h1, rfl⟩ := r1
    obtain ⟨Hi2, w2, n2, d2⟩ := w1.freeze hc h1
    exact k _ _ _ _ (n1.trans n2) w2 d2⟩
/-- .. the last one, and it is forgotten -/
theorem de_fz {ds : List PyData} (h : DE X G S a (.p S1.length) (S1 ++ [.lst (ds.map .d)])) (hs : S.all (Cl.lo S.length) = true → S1.all (Cl.lo S1.length) = true) (hl : S.length ≤ S1.length) : DE X G S a (.d (.list ds)) S1 := by
  have h1 := de_frz h (ds := ds) (by simp)
  have e : (S1 ++ [Cl.lst (ds.map .d)]).set S1.length .gone = S1 ++ [.gone] := by simp
  rw [e] at h1
  exact de_drop h1 rfl hs hl
end

/-! ### what a sequence is -/
/-- a list now: a cell, or data -/
inductive IsL (S : List Cl) : En → List En → Prop
  | c {i : Nat} {xs : List En} (h : S[i]? = some (.lst xs)) : IsL S (.p i) xs
  | d {ds : List PyData} : IsL S (.d (.list ds)) (ds.map .d)
inductive IsSq (S : List Cl) : En → List En → Prop
  | l {e : En} {xs : List En} (h : IsL S e xs) : IsSq S e xs
  | t {ds : List PyData} : IsSq S (.d (.tuple ds)) (ds.map .d)
section
variable {K : Fg} {Hi H : Hp} {al : List Addr} {S : List Cl} {e : En} {v : V} {xs : List En}
theorem dp_paired : ∀ {ds : List PyData} {vs : List V}, DpAll K Hi vs ds → Paired (EnR K Hi al) (ds.map .d) vs
  | [], _, h => by cases h; exact .nil
  | d :: ds, _, h => by
    cases h with
    | cons r t => exact .cons r (dp_paired t)
theorem paired_dp : ∀ {ds : List PyData} {vs : List V}, Paired (EnR K Hi al) (ds.map .d) vs → DpAll K Hi vs ds
  | [], _, h => by cases h; exact .nil
  | d :: ds, _, h => by
    cases h with
    | cons r t => exact .cons r (paired_dp t)
theorem IsL.val (h : IsL S e xs) (w : Wd K Hi H al S) (r : EnR K Hi al e v) : ∃ a vs, v = .ref a ∧ SqL K H a vs ∧ Paired (EnR K Hi al) xs vs := by
  cases h with
  | c hc =>
    obtain ⟨a, h1, h2⟩ := r
    obtain ⟨_, z⟩ := w.cells _ _ a hc h1 (fun z => nomatch z)
    cases q : H a with
    | none => rw [q] at z; exact z.elim
    | some o =>
      rw [q] at z
      cases o <;> first | exact z.elim | exact ⟨a, _, h2, SqL.of q, z⟩
  | d =>
    cases r with
    | lst hs ha => exact ⟨_, _, rfl, w.ex.seq hs, dp_paired ha⟩
theorem cell_lst {i : Nat} {a : Addr} (w : Wd K Hi H al S) (hc : S[i]? = some (.lst xs)) (h1 : al[i]? = some a) : ∃ vs, H a = some (.lst vs) ∧ Paired (EnR K Hi al) xs vs := by
  obtain ⟨_, z⟩ := w.cells _ _ a hc h1 (fun z => nomatch z)
  cases q : H a with
  | none => rw [q] at z; exact z.elim
  | some o =>
    rw [q] at z
    cases o <;> first | exact z.elim | exact ⟨_, rfl, z⟩
theorem IsSq.val (h : IsSq S e xs) (w : Wd K Hi H al S) (r : EnR K Hi al e v) : ∃ a vs, v = .ref a ∧ (SqL K H a vs ∨ SqT K H a vs) ∧ Paired (EnR K Hi al) xs vs := by
  cases h with
  | l hl =>
    obtain ⟨a, vs, h1, h2, h3⟩ := hl.val w r
    exact ⟨a, vs, h1, .inl h2, h3⟩
  | t =>
    cases r with
    | tup hs ha => exact ⟨_, _, rfl, .inr (sqT_same w.ex hs), dp_paired ha⟩
/-- data as it is now: data, or a cell of data -/
inductive IsD (S : List Cl) : En → PyData → Prop
  | d {x : PyData} : IsD S (.d x) x
  | c {i : Nat} {ds : List PyData} (h : S[i]? = some (.lst (ds.map .d))) : IsD S (.p i) (.list ds)
theorem IsD.val {x : PyData} (h : IsD S e x) (w : Wd K Hi H al S) (r : EnR K Hi al e v) : Dp K H v x := by
  cases h with
  | d => exact dpM w.ex _ _ r
  | c hc =>
    obtain ⟨a, h1, rfl⟩ := r
    obtain ⟨vs, q, z⟩ := cell_lst w hc h1
    exact .lst (SqL.of q) (dpsM w.ex _ _ (paired_dp z))
end
end AF

set_option Elab.async false
set_option linter.all false
set_option maxRecDepth 100000
set_option maxHeartbeats 4000000
namespace AF
open PySem PySem.Spec PyProof.Rows L2
/-! ### facts of the operators -/
section
variable {K : Fg} {S : List Cl} {i j : Int}
theorem rv_ii {g : Int → Int → Int} : RV2 K (rI0 fun i j => .int (g i j)) S (.d (.int i)) (.d (.int j)) (.d (.int (g i j))) S := fun Hi H al v u Q w rv ru k => by
  cases rv; cases ru
  exact ⟨i, j, rfl, rfl, k _ _ _ _ (Nx.refl w) w (.int _)⟩
theorem rv_ib {g : Int → Int → Bool} : RV2 K (rI0 fun i j => .bl (g i j)) S (.d (.int i)) (.d (.int j)) (.d (.bool (g i j))) S := fun Hi H al v u Q w rv ru k => by
  cases rv; cases ru
  exact ⟨i, j, rfl, rfl, k _ _ _ _ (Nx.refl w) w (.bl _)⟩
theorem rv_iC {C : Int → Int → Prop} {g : Int → Int → Int} (h : C i j) : RV2 K (rI C fun i j => .int (g i j)) S (.d (.int i)) (.d (.int j)) (.d (.int (g i j))) S := fun Hi H al v u Q w rv ru k => by
  cases rv; cases ru
  exact ⟨i, j, rfl, rfl, h, k _ _ _ _ (Nx.refl w) w (.int _)⟩
theorem rv_sadd {a b : Str} (h : a.length + b.length ≤ sizeLine) : RV2 K (fun x y H Q => ∃ i j, x = .str i ∧ y = .str j ∧ i.length + j.length ≤ sizeLine ∧ Q (.str (i ++ j)) H) S (.d (.str a)) (.d (.str b)) (.d (.str (a ++ b))) S := fun Hi H al v u Q w rv ru k => by
  cases rv; cases ru
  exact ⟨a, b, rfl, rfl, h, k _ _ _ _ (Nx.refl w) w (.str _)⟩
/-- two cells joined into a new one -/
theorem rv_cat {m n : Nat} {xs ys : List En} (hm : S[m]? = some (.lst xs)) (hn : S[n]? = some (.lst ys)) (hl : xs.length + ys.length ≤ 1000000) : RV2 K rCat S (.p m) (.p n) (.p S.length) (S ++ [.lst (xs ++ ys)]) := fun Hi H al v u Q w rv ru k => by
  obtain ⟨a, h1, rfl⟩ := rv
  obtain ⟨b, h2, rfl⟩ := ru
  obtain ⟨vs, e1, r1⟩ := cell_lst w hm h1
  obtain ⟨us, e2, r2⟩ := cell_lst w hn h2
  have l1 := paired_len r1
  have l2 := paired_len r2
  refine ⟨a, b, vs, us, rfl, rfl, e1, e2, by rw [← l1, ← l2]; exact Nat.le_trans hl (by decide), fun p hp => ?_⟩
  have n2 := (w.cell (c := .gone) (o := .lst (vs ++ us)) hp trivial).2
  obtain ⟨w2, n2⟩ := w.cell (c := .lst (xs ++ ys)) (o := .lst (vs ++ us)) hp (paired_imp (fun _ _ r => EnR.mono n2 r) (paired_app r1 r2))
  exact k _ _ _ _ n2 w2 ⟨p, by rw [← w.len]; simp, rfl⟩
/-- two tuples -/
theorem dps_app {Hi : Hp} : ∀ {ds es : List PyData} {vs us : List V}, DpAll K Hi vs ds → DpAll K Hi us es → DpAll K Hi (vs ++ us) (ds ++ es)
  | [], _, _, _, h, h2 => by cases h; exact h2
  | _ :: _, _, _, _, h, h2 => by
    cases h with
    | cons r t => exact .cons r (dps_app t h2)
theorem dps_len {Hi : Hp} : ∀ {ds : List PyData} {vs : List V}, DpAll K Hi vs ds → vs.length = ds.length
  | [], _, h => by cases h; rfl
  | _ :: _, _, h => by
    cases h with
    | cons r t => simp [dps_len t]
theorem dps_nil {Hi : Hp} {ds : List PyData} (h : DpAll K Hi [] ds) : ds = [] := by cases h; rfl
theorem rv_catT {ds es : List PyData} (hl : ds.length + es.length ≤ 1000000) : RV2 K (rCatA K) S (.d (.tuple ds)) (.d (.tuple es)) (.d (.tuple (ds ++ es))) S := fun Hi H al v u Q w rv ru k => by
  cases rv with
  | tup h1 d1 =>
    rename_i a vs
    cases ru with
    | tup h2 d2 =>
      rename_i b us
      refine ⟨a, b, vs, us, rfl, rfl, sqT_same w.ex h1, sqT_same w.ex h2, by rw [dps_len d1, dps_len d2]; exact Nat.le_trans hl (by decide), fun e => ?_, fun _ e => ?_, fun _ _ p hp => ?_⟩
      · subst e
        have e0 := dps_nil d1
        subst e0
        exact k _ _ _ _ (Nx.refl w) w (.tup h2 d2)
      · subst e
        have e0 := dps_nil d2
        subst e0
        rw [List.append_nil] at k
        exact k _ _ _ _ (Nx.refl w) w (.tup h1 d1)
      · obtain ⟨w2, n2⟩ := w.data (o := .tup (vs ++ us)) hp
        exact k _ _ _ _ n2 w2 (.tup (SqT.of upd_same) (dps_app (dpsM n2.ex _ _ d1) (dpsM n2.ex _ _ d2)))
/-- == of data -/
theorem rv_eqD {x y : En} {d e : PyData} (hx : IsD S x d) (hy : IsD S y e) (sd : SeqAt.shaped d = true) (se : SeqAt.shaped e = true) : RV2 K (rEqD K) S x y (.d (.bool (PyData.eqv d e))) S := fun Hi H al v u Q w rv ru k =>
  ⟨d, e, hx.val w rv, hy.val w ru, sd, se, k _ _ _ _ (Nx.refl w) w (.bl _)⟩
theorem rv_neD {x y : En} {d e : PyData} (hx : IsD S x d) (hy : IsD S y e) (sd : SeqAt.shaped d = true) (se : SeqAt.shaped e = true) : RV2 K (rNeD K) S x y (.d (.bool (!PyData.eqv d e))) S := fun Hi H al v u Q w rv ru k =>
  ⟨d, e, hx.val w rv, hy.val w ru, sd, se, k _ _ _ _ (Nx.refl w) w (.bl _)⟩
/-- a text in a sequence of texts -/
theorem inV_strs (x : Str) : ∀ ys : List Str, inV (.str x) (ys.map V.str) = decide (x ∈ ys)
  | [] => rfl
  | y :: ys => by
    have ih := inV_strs x ys
    unfold inV at ih ⊢
    rw [List.map_cons, List.any_cons, ih]
    show ((y == x) || decide (x ∈ ys)) = _
    by_cases h : y = x
    · subst h; simp
    · have : (y == x) = false := by simpa using h
      rw [this]
      simp [Ne.symm h]
theorem vs_strs {Hi : Hp} {al : List Addr} : ∀ {ys : List Str} {vs : List V}, Paired (EnR K Hi al) (ys.map fun y => En.d (.str y)) vs → vs = ys.map V.str
  | [], _, h => by cases h; rfl
  | y :: ys, _, h => by
    cases h with
    | cons r t => cases r; rw [vs_strs t]; rfl
theorem all_flat (ys : List Str) : (ys.map V.str).all flatV = true := by
  rw [List.all_map]; exact List.all_eq_true.mpr fun _ _ => rfl
theorem rv_inS {x : Str} {ys : List Str} {y : En} (h : IsSq S y (ys.map fun y => En.d (.str y))) : RV2 K (rIn K false) S (.d (.str x)) y (.d (.bool (decide (x ∈ ys)))) S := fun Hi H al v u Q w rv ru k => by
  cases rv
  obtain ⟨a, vs, rfl, hs, hp⟩ := h.val w ru
  have e := vs_strs hp
  subst e
  refine ⟨a, _, rfl, hs, rfl, all_flat ys, ?_⟩
  show Q (.bl (inV _ _)) H
  rw [inV_strs]
  exact k _ _ _ _ (Nx.refl w) w (.bl _)
theorem rv_ninS {x : Str} {ys : List Str} {y : En} (h : IsSq S y (ys.map fun y => En.d (.str y))) : RV2 K (rIn K true) S (.d (.str x)) y (.d (.bool (!decide (x ∈ ys)))) S := fun Hi H al v u Q w rv ru k => by
  cases rv
  obtain ⟨a, vs, rfl, hs, hp⟩ := h.val w ru
  have e := vs_strs hp
  subst e
  refine ⟨a, _, rfl, hs, rfl, all_flat ys, ?_⟩
  show Q (.bl (!inV _ _)) H
  rw [inV_strs]
  exact k _ _ _ _ (Nx.refl w) w (.bl _)
end

section
variable {X : Cx} {G : Gm} {S S1 S2 S3 : List Cl} {x y z : En} {a b c o ex : Expr} {es : List Expr} {p pos apos cpos : Pos} {xs ys : List En} {nm : Str} {id : String}
theorem mapd_inj : ∀ {l m : List PyData}, l.map En.d = m.map En.d → l = m
  | [], [], _ => rfl
  | [], _ :: _, h => by simp at h
  | _ :: _, [], h => by simp at h
  | a :: l, b :: m, h => by
    rw [List.map_cons, List.map_cons] at h
    injection h with h1 h2
    rw [En.d.inj h1, mapd_inj h2]
/-! ### calls of built-ins -/
theorem de_cb {r : List V → Hp → VK → Prop} (hc : CallR X (.builtin id) r) (hr : RVn X.K r S1 xs z S2) (hg : Gl X nm) (hm : X.mg nm = none) (hv : bootBuiltins nm = some (.builtin id)) (ha : DA X G S (a :: es) xs S1) (hn : nm ≠ "__name__" := by decide) (hdb : (nm == ("__debug__" : Str)) = false := by decide)
    (he : starEach (a :: es) X.env = (false, eval a X.env) :: starEach es X.env := by rfl) (hpl : (backTo pos (starEach es X.env)).any (·.1) = false := by rfl) : DE X G S (.Call (.Name nm p) (a :: es) [] pos) z S2 :=
  pe_wk (pe_callB hc hg hm hv ha hn hdb he hpl) fun σ H Q ⟨Hi, al, w, s, k⟩ => ⟨Hi, al, w, s, fun Hi1 H1 al1 vs n1 w1 r1 => hr Hi1 H1 al1 vs Q w1 r1 fun _ _ _ _ n2 w2 r2 => k _ _ _ _ (n1.trans n2) w2 r2⟩
theorem de_ct {r : List V → Hp → VK → Prop} (hc : CallR X (.type id) r) (hr : RVn X.K r S1 xs z S2) (hg : Gl X nm) (hm : X.mg nm = none) (hv : bootBuiltins nm = some (.type id)) (ha : DA X G S (a :: es) xs S1) (hn : nm ≠ "__name__" := by decide) (hdb : (nm == ("__debug__" : Str)) = false := by decide)
    (he : starEach (a :: es) X.env = (false, eval a X.env) :: starEach es X.env := by rfl) (hpl : (backTo pos (starEach es X.env)).any (·.1) = false := by rfl) : DE X G S (.Call (.Name nm p) (a :: es) [] pos) z S2 :=
  pe_wk (pe_callTy hc hg hm hv ha hn hdb he hpl) fun σ H Q ⟨Hi, al, w, s, k⟩ => ⟨Hi, al, w, s, fun Hi1 H1 al1 vs n1 w1 r1 => hr Hi1 H1 al1 vs Q w1 r1 fun _ _ _ _ n2 w2 r2 => k _ _ _ _ (n1.trans n2) w2 r2⟩
theorem de_len (hm : X.mg "len" = none) (h : IsSq S1 x xs) (ha : DE X G S a x S1) (hg : Gl X "len" := by rfl) (he : starEach [a] X.env = (false, eval a X.env) :: starEach [] X.env := by rfl) : DE X G S (.Call (.Name "len" p) [a] [] pos) (.d (.int xs.length)) S1 :=
  de_cb call_len_seq (fun Hi H al vs Q w r k => by
    cases r with
    | cons r1 t =>
      cases t
      obtain ⟨ad, us, rfl, hs, hp⟩ := h.val w r1
      refine ⟨ad, us, rfl, hs, ?_⟩
      rw [← paired_len hp]
      exact k _ _ _ _ (Nx.refl w) w (.int _)) hg hm PySem.boot_len (da_cons ha da_nil he) (by decide) (by decide) he rfl
theorem de_lenS {t : Str} (hm : X.mg "len" = none) (hl : t.length ≤ sizeLine) (ha : DE X G S a (.d (.str t)) S1) (hg : Gl X "len" := by rfl) (he : starEach [a] X.env = (false, eval a X.env) :: starEach [] X.env := by rfl) : DE X G S (.Call (.Name "len" p) [a] [] pos) (.d (.int t.length)) S1 :=
  de_cb call_len (fun Hi H al vs Q w r k => by
    cases r with
    | cons r1 u =>
      cases u; cases r1
      exact ⟨_, _, rfl, ⟨hl, rfl⟩, k _ _ _ _ (Nx.refl w) w (.int _)⟩) hg hm PySem.boot_len (da_cons ha da_nil he) (by decide) (by decide) he rfl
theorem de_list (hm : X.mg "list" = none) (h : IsSq S1 x xs) (ha : DE X G S a x S1) (hg : Gl X "list" := by rfl) (he : starEach [a] X.env = (false, eval a X.env) :: starEach [] X.env := by rfl) : DE X G S (.Call (.Name "list" p) [a] [] pos) (.p S1.length) (S1 ++ [.lst xs]) :=
  de_ct call_list_of (fun Hi H al vs Q w r k => by
    cases r with
    | cons r1 t =>
      cases t
      obtain ⟨ad, us, rfl, hs, hp⟩ := h.val w r1
      refine ⟨ad, us, rfl, hs, fun l hl => ?_⟩
      have n2 := (w.cell (c := .gone) (o := .lst us) hl trivial).2
      obtain ⟨w2, n2⟩ := w.cell (c := .lst xs) (o := .lst us) hl (paired_imp (fun _ _ r => EnR.mono n2 r) hp)
      exact k _ _ _ _ n2 w2 ⟨l, by rw [← w.len]; simp, rfl⟩) hg hm boot_list (da_cons ha da_nil he) (by decide) (by decide) he rfl
theorem de_tuple {ds : List PyData} (hm : X.mg "tuple" = none) (h : IsSq S1 x (ds.map .d)) (ha : DE X G S a x S1) (hg : Gl X "tuple" := by rfl) (he : starEach [a] X.env = (false, eval a X.env) :: starEach [] X.env := by rfl) : DE X G S (.Call (.Name "tuple" p) [a] [] pos) (.d (.tuple ds)) S1 :=
  de_ct call_tuple_of (fun Hi H al vs Q w r k => by
    cases r with
    | cons r1 t =>
      cases t
      generalize hz : ds.map En.d = zs at h
      cases h with
      | l hl =>
        subst hz
        obtain ⟨ad, us, rfl, hs, hp⟩ := hl.val w r1
        refine ⟨ad, us, rfl, .inl ⟨hs, fun l hl => ?_⟩⟩
        obtain ⟨w2, n2⟩ := w.data (o := .tup us) hl
        exact k _ _ _ _ n2 w2 (.tup (SqT.of upd_same) (dpsM n2.ex _ _ (paired_dp hp)))
      | t =>
        rename_i ds'
        have e : ds = ds' := by
          exact mapd_inj hz
        subst e
        cases r1 with
        | tup hq hd => exact ⟨_, _, rfl, .inr ⟨sqT_same w.ex hq, k _ _ _ _ (Nx.refl w) w (.tup hq hd)⟩⟩) hg hm boot_tuple (da_cons ha da_nil he) (by decide) (by decide) he rfl
theorem de_abs {i : Int} (hm : X.mg "abs" = none) (ha : DE X G S a (.d (.int i)) S1) (hg : Gl X "abs" := by rfl) (he : starEach [a] X.env = (false, eval a X.env) :: starEach [] X.env := by rfl) : DE X G S (.Call (.Name "abs" p) [a] [] pos) (.d (.int (if i < 0 then -i else i))) S1 :=
  de_cb call_abs (fun Hi H al vs Q w r k => by
    cases r with
    | cons r1 u =>
      cases u; cases r1
      exact ⟨_, rfl, k _ _ _ _ (Nx.refl w) w (.int _)⟩) hg hm boot_abs (da_cons ha da_nil he) (by decide) (by decide) he rfl
theorem de_max2 {i j : Int} (hc : X.calm = true) (hm : X.mg "max" = none) (ha : DA X G S [a, b] [.d (.int i), .d (.int j)] S1) (hg : Gl X "max" := by rfl) (he : starEach [a, b] X.env = (false, eval a X.env) :: starEach [b] X.env := by rfl) (hpl : (backTo pos (starEach [b] X.env)).any (·.1) = false := by rfl) :
    DE X G S (.Call (.Name "max" p) [a, b] [] pos) (.d (.int (if j > i then j else i))) S1 :=
  de_cb (call_max2 hc) (fun Hi H al vs Q w r k => by
    cases r with
    | cons r1 u =>
      cases u with
      | cons r2 t =>
        cases t; cases r1; cases r2
        exact ⟨_, _, rfl, k _ _ _ _ (Nx.refl w) w (.int _)⟩) hg hm boot_max ha (by decide) (by decide) he hpl
theorem de_min2 {i j : Int} (hc : X.calm = true) (hm : X.mg "min" = none) (ha : DA X G S [a, b] [.d (.int i), .d (.int j)] S1) (hg : Gl X "min" := by rfl) (he : starEach [a, b] X.env = (false, eval a X.env) :: starEach [b] X.env := by rfl) (hpl : (backTo pos (starEach [b] X.env)).any (·.1) = false := by rfl) :
    DE X G S (.Call (.Name "min" p) [a, b] [] pos) (.d (.int (if j < i then j else i))) S1 :=
  de_cb (call_min2 hc) (fun Hi H al vs Q w r k => by
    cases r with
    | cons r1 u =>
      cases u with
      | cons r2 t =>
        cases t; cases r1; cases r2
        exact ⟨_, _, rfl, k _ _ _ _ (Nx.refl w) w (.int _)⟩) hg hm boot_min ha (by decide) (by decide) he hpl
theorem de_intB {t : Bool} (hm : X.mg "int" = none) (ha : DE X G S a (.d (.bool t)) S1) (hg : Gl X "int" := by rfl) (he : starEach [a] X.env = (false, eval a X.env) :: starEach [] X.env := by rfl) : DE X G S (.Call (.Name "int" p) [a] [] pos) (.d (.int (if t then 1 else 0))) S1 :=
  de_ct call_int1 (fun Hi H al vs Q w r k => by
    cases r with
    | cons r1 u =>
      cases u; cases r1
      exact .inr ⟨_, rfl, k _ _ _ _ (Nx.refl w) w (.int _)⟩) hg hm PyProof.Rows.boot_int (da_cons ha da_nil he) (by decide) (by decide) he rfl

/-! ### places and slices -/
theorem paired_atI {K : Fg} {Hi : Hp} {al : List Addr} {xs : List En} {vs : List V} {i : Int} {j : Nat} {e : En} (h : Paired (EnR K Hi al) xs vs) (hj : ixN xs.length i = some j) (he : xs[j]? = some e) : ∃ v, atI vs i = some v ∧ EnR K Hi al e v := by
  obtain ⟨v, h1, h2⟩ := paired_get h he
  refine ⟨v, ?_, h2⟩
  unfold atI
  rw [← paired_len h, hj]
  exact h1
theorem de_ixL {i : Int} {j : Nat} {e : En} (h : IsL S2 x xs) (hj : ixN xs.length i = some j) (he : xs[j]? = some e) (ha : DE X G S a x S1) (hb : DE X G S1 b (.d (.int i)) S2) (hs : PlainIx b := by exact fun _ _ => rfl) : DE X G S (.Subscript a b pos) e S2 :=
  pe_wk (pe_ix ix_list ha hb hs) fun σ H Q ⟨Hi, al, w, s, k⟩ => ⟨Hi, al, w, s, fun Hi1 H1 al1 v n1 w1 r1 => ⟨Hi1, al1, w1, s.mono n1, fun Hi2 H2 al2 u n2 w2 r2 => by
    obtain ⟨ad, us, rfl, hq, hp⟩ := h.val w2 (r1.mono n2)
    cases r2
    obtain ⟨v, h1, h2⟩ := paired_atI hp hj he
    exact ⟨ad, us, i, v, rfl, rfl, hq, h1, k _ _ _ _ (n1.trans n2) w2 h2⟩⟩⟩
theorem de_ixT {i : Int} {j : Nat} {ds : List PyData} {e : PyData} (hj : ixN ds.length i = some j) (he : ds[j]? = some e) (ha : DE X G S a (.d (.tuple ds)) S1) (hb : DE X G S1 b (.d (.int i)) S2) (hs : PlainIx b := by exact fun _ _ => rfl) : DE X G S (.Subscript a b pos) (.d e) S2 :=
  pe_wk (pe_ix ix_tup ha hb hs) fun σ H Q ⟨Hi, al, w, s, k⟩ => ⟨Hi, al, w, s, fun Hi1 H1 al1 v n1 w1 r1 => ⟨Hi1, al1, w1, s.mono n1, fun Hi2 H2 al2 u n2 w2 r2 => by
    have r1' : Dp X.K Hi2 v (.tuple ds) := EnR.mono n2 (e := .d _) r1
    cases r1' with
    | tup hq hd =>
      cases r2
      obtain ⟨v, h1, h2⟩ := paired_atI (al := al2) (e := .d e) (dp_paired hd) (by rw [List.length_map]; exact hj) (by rw [List.getElem?_map, he]; rfl)
      exact ⟨_, _, i, v, rfl, rfl, sqT_same w2.ex hq, h1, k _ _ _ _ (n1.trans n2) w2 h2⟩⟩⟩
theorem de_ixS {i : Int} {t : Str} {c : Nat} (hl : t.length ≤ sizeLine) (he : atI t.cps.toList i = some c) (ha : DE X G S a (.d (.str t)) S1) (hb : DE X G S1 b (.d (.int i)) S2) (hs : PlainIx b := by exact fun _ _ => rfl) : DE X G S (.Subscript a b pos) (.d (.str ⟨#[c]⟩)) S2 :=
  pe_wk (pe_ix ix_str ha hb hs) fun σ H Q ⟨Hi, al, w, s, k⟩ => ⟨Hi, al, w, s, fun Hi1 H1 al1 v n1 w1 r1 => ⟨Hi1, al1, w1, s.mono n1, fun Hi2 H2 al2 u n2 w2 r2 => by
    cases r1
    cases r2
    exact ⟨t, i, c, rfl, rfl, hl, he, k _ _ _ _ (n1.trans n2) w2 (.str _)⟩⟩⟩
/-- a part of a slice -/
def rO (K : Fg) (G : Gm) (S : List Cl) (v : Option Int) (S' : List Cl) : TO := fun σ H Q => ∃ Hi al, Wd K Hi H al S ∧ Sl K Hi al G σ ∧ ∀ Hi' H' al', Nx Hi H al Hi' H' al' → Wd K Hi' H' al' S' → Q v H'
theorem do_none : PO X none (rO X.K G S none S) := ⟨fun pins s σ H Q I ⟨Hi, al, w, sl, k⟩ => po_none.run pins s σ H Q I (k _ _ _ (Nx.refl w) w)⟩
theorem do_some {i : Int} (h : DE X G S a (.d (.int i)) S1) : PO X (some a) (rO X.K G S (some i) S1) := ⟨fun pins s σ H Q I ⟨Hi, al, w, sl, k⟩ => (po_some h).run pins s σ H Q I ⟨Hi, al, w, sl, fun Hi1 H1 al1 v n1 w1 r1 => by
  cases r1; exact ⟨i, rfl, k _ _ _ n1 w1⟩⟩⟩
def cutA {A : Type} (xs : List A) (lo hi : Option Int) : List A := (xs.drop (HT.sIx xs.length 0 lo)).take (HT.sIx xs.length xs.length hi - HT.sIx xs.length 0 lo)
theorem paired_cut {K : Fg} {Hi : Hp} {al : List Addr} {xs : List En} {vs : List V} {lo hi : Option Int} (h : Paired (EnR K Hi al) xs vs) : Paired (EnR K Hi al) (cutA xs lo hi) (cutV vs lo hi) := by
  unfold cutA cutV
  rw [paired_len h]
  exact paired_take _ (paired_drop _ h)
theorem cutA_map {A B : Type} (f : A → B) (xs : List A) (lo hi : Option Int) : cutA (xs.map f) lo hi = (cutA xs lo hi).map f := by
  unfold cutA
  rw [List.length_map, List.map_take, List.map_drop]
variable {lo hi : Option Expr} {l h : Option Int} {p2 : Pos}
theorem de_slL (hx : IsL S3 x xs) (ha : DE X G S a x S1) (hl : PO X lo (rO X.K G S1 l S2)) (hh : PO X hi (rO X.K G S2 h S3)) : DE X G S (.Subscript a (.Slice lo hi none p2) pos) (.p S3.length) (S3 ++ [.lst (cutA xs l h)]) :=
  pe_wk (pe_slice sl_list ha hl hh) fun σ H Q ⟨Hi, al, w, s, k⟩ => ⟨Hi, al, w, s, fun Hi1 H1 al1 v n1 w1 r1 => ⟨Hi1, al1, w1, s.mono n1, fun Hi2 H2 al2 n2 w2 => ⟨Hi2, al2, w2, s.mono (n1.trans n2), fun Hi3 H3 al3 n3 w3 => by
    obtain ⟨ad, us, rfl, hq, hp⟩ := hx.val w3 ((r1.mono n2).mono n3)
    refine ⟨ad, us, rfl, hq, fun q hn => ?_⟩
    have n4 := (w3.cell (c := .gone) (o := .lst (cutV us l h)) hn trivial).2
    obtain ⟨w4, n4⟩ := w3.cell (c := .lst (cutA xs l h)) (o := .lst (cutV us l h)) hn (paired_imp (fun _ _ r => EnR.mono n4 r) (paired_cut hp))
    exact k _ _ _ _ (((n1.trans n2).trans n3).trans n4) w4 ⟨q, by rw [← w3.len]; simp, rfl⟩⟩⟩⟩
theorem de_slT {ds : List PyData} (ha : DE X G S a (.d (.tuple ds)) S1) (hl : PO X lo (rO X.K G S1 l S2)) (hh : PO X hi (rO X.K G S2 h S3)) : DE X G S (.Subscript a (.Slice lo hi none p2) pos) (.d (.tuple (cutA ds l h))) S3 :=
  pe_wk (pe_slice sl_tupA ha hl hh) fun σ H Q ⟨Hi, al, w, s, k⟩ => ⟨Hi, al, w, s, fun Hi1 H1 al1 v n1 w1 r1 => ⟨Hi1, al1, w1, s.mono n1, fun Hi2 H2 al2 n2 w2 => ⟨Hi2, al2, w2, s.mono (n1.trans n2), fun Hi3 H3 al3 n3 w3 => by
    have r3 : Dp X.K Hi3 v (.tuple ds) := EnR.mono n3 (e := .d _) (EnR.mono n2 (e := .d _) r1)
    cases r3 with
    | tup hq hd =>
      rename_i ad us
      have hlen := dps_len hd
      refine ⟨ad, us, rfl, sqT_same w3.ex hq, fun e => ?_, fun _ q hn => ?_⟩
      · have e2 : cutA ds l h = ds := by
          unfold cutA
          rw [← hlen, e.1, e.2]
          simp [hlen]
        exact k _ _ _ _ ((n1.trans n2).trans n3) w3 (by rw [e2]; exact .tup hq hd)
      · obtain ⟨w4, n4⟩ := w3.data (o := .tup (cutV us l h)) hn
        refine k _ _ _ _ (((n1.trans n2).trans n3).trans n4) w4 (.tup (SqT.of upd_same) (dpsM n4.ex _ _ ?_))
        have pc := paired_cut (lo := l) (hi := h) (dp_paired (al := al3) hd)
        rw [cutA_map] at pc
        exact paired_dp pc⟩⟩⟩
theorem de_slS {t : Str} (ht : t.length ≤ sizeLine) (ha : DE X G S a (.d (.str t)) S1) (hl : PO X lo (rO X.K G S1 l S2)) (hh : PO X hi (rO X.K G S2 h S3)) : DE X G S (.Subscript a (.Slice lo hi none p2) pos) (.d (.str (cutS t l h))) S3 :=
  pe_wk (pe_slice sl_str ha hl hh) fun σ H Q ⟨Hi, al, w, s, k⟩ => ⟨Hi, al, w, s, fun Hi1 H1 al1 v n1 w1 r1 => ⟨Hi1, al1, w1, s.mono n1, fun Hi2 H2 al2 n2 w2 => ⟨Hi2, al2, w2, s.mono (n1.trans n2), fun Hi3 H3 al3 n3 w3 => by
    cases r1
    exact ⟨t, rfl, ht, k _ _ _ _ ((n1.trans n2).trans n3) w3 (.str _)⟩⟩⟩⟩
/-- xs[::-1] -/
theorem de_rev {k0 : Nat} {p1 p3 : Pos} (hx : IsL S1 x xs) (ha : DE X G S a x S1) : DE X G S (.Subscript a (.Slice none none (some (.UnaryOp .USub (.Constant (.int 1) k0 p1) p2)) p3) pos) (.p S1.length) (S1 ++ [.lst xs.reverse]) :=
  pe_wk (pe_revL ha) fun σ H Q ⟨Hi, al, w, s, k⟩ => ⟨Hi, al, w, s, fun Hi1 H1 al1 v n1 w1 r1 => by
    obtain ⟨ad, us, rfl, hq, hp⟩ := hx.val w1 r1
    refine ⟨ad, us, rfl, hq, fun q hn => ?_⟩
    have n4 := (w1.cell (c := .gone) (o := .lst us.reverse) hn trivial).2
    obtain ⟨w4, n4⟩ := w1.cell (c := .lst xs.reverse) (o := .lst us.reverse) hn (paired_imp (fun _ _ r => EnR.mono n4 r) (paired_rev hp))
    exact k _ _ _ _ (n1.trans n4) w4 ⟨q, by rw [← w1.len]; simp, rfl⟩⟩
/-- [*xs, ..]: the items of a sequence among the arguments -/
theorem da_star (h : IsSq S1 x xs) (ha : DE X G S a x S1) (hr : DA X G S1 es ys S2) (hs : starEach (.Starred a p :: es) X.env = (true, eval a X.env) :: starEach es X.env := by rfl) : DA X G S (.Starred a p :: es) (xs ++ ys) S2 :=
  pa_wk (StX.pa_star ha hr hs) fun σ H Q ⟨Hi, al, w, s, k⟩ => ⟨Hi, al, w, s, fun Hi1 H1 al1 v n1 w1 r1 => by
    obtain ⟨ad, us, rfl, hq, hp⟩ := h.val w1 r1
    exact ⟨ad, us, rfl, hq.symm, Hi1, al1, w1, s.mono n1, fun Hi2 H2 al2 vs n2 w2 r2 => k _ _ _ _ (n1.trans n2) w2 (paired_app (paired_imp (fun _ _ r => EnR.mono n2 r) hp) r2)⟩⟩

/-! ### methods of lists and texts -/
theorem de_append {i : Nat} (hc : S2[i]? = some (.lst xs)) (hl : xs.length < 1000000) (ho : DE X G S o (.p i) S1) (hi : ∃ ys, S1[i]? = some (.lst ys)) (ha : DE X G S1 a x S2)
    (hbase : attributeBase o "append" X.env (eval o X.env) = eval o X.env := by rfl)
    (hfew : ((backTo cpos (starEach [a] X.env)).all (fun x => !x.1) && (backToKw cpos (keywordEach [] X.env)).all (fun x => x.1.isSome)
      && decide ([a].length + ([] : List Keyword).length + (if ([] : List Keyword).isEmpty then 0 else 1) < 30)) = true := by rfl)
    (hline : (apos.endLine == cpos.line) = true := by rfl) (hs : starEach [a] X.env = (false, eval a X.env) :: starEach [] X.env := by rfl) :
    DE X G S (.Call (.Attribute o "append" apos) [a] [] cpos) (.d .none) (S2.set i (.lst (xs ++ [x]))) :=
  pe_wk (pe_bm PySem.F.plainAttrs_list PySem.F.slot_list_append PySem.F.type_list_append mt_append ho (da_cons ha da_nil hs) hbase hfew hline hs rfl) fun σ H Q ⟨Hi, al, w, s, k⟩ => ⟨Hi, al, w, s, fun Hi1 H1 al1 v n1 w1 r1 => by
    obtain ⟨ys, hy⟩ := hi
    obtain ⟨ad, h1, rfl⟩ := r1
    obtain ⟨us, e1, _⟩ := cell_lst w1 hy h1
    refine ⟨.inl ⟨rfl, us, SqL.of e1⟩, Hi1, al1, w1, s.mono n1, fun Hi2 H2 al2 vs n2 w2 r2 => ?_⟩
    cases r2 with
    | cons r3 t =>
      cases t
      obtain ⟨ad2, h2, e2⟩ := EnR.mono (K := X.K) n2 (e := .p i) ⟨ad, h1, rfl⟩
      cases e2
      obtain ⟨us2, e3, rp⟩ := cell_lst w2 hc h2
      refine ⟨ad, us2, _, rfl, rfl, e3, by rw [← paired_len rp]; exact Nat.lt_of_lt_of_le hl (by decide), ?_⟩
      obtain ⟨w3, n3⟩ := w2.write (c' := .lst (xs ++ [x])) (o := .lst (us2 ++ [_])) hc h2 (fun z => nomatch z) (paired_app rp (.cons r3 .nil))
      exact k _ _ _ _ ((n1.trans n2).trans n3) w3 .non⟩
theorem de_popAt {i : Nat} {n : Int} {j : Nat} {e : En} (hc : S2[i]? = some (.lst xs)) (hn : -(2 ^ 63) ≤ n ∧ n < 2 ^ 63) (hj : seqIndex? n xs.length = some j) (he : xs[j]? = some e) (ho : DE X G S o (.p i) S1) (hi : ∃ ys, S1[i]? = some (.lst ys)) (ha : DE X G S1 a (.d (.int n)) S2)
    (hbase : attributeBase o "pop" X.env (eval o X.env) = eval o X.env := by rfl)
    (hfew : ((backTo cpos (starEach [a] X.env)).all (fun x => !x.1) && (backToKw cpos (keywordEach [] X.env)).all (fun x => x.1.isSome)
      && decide ([a].length + ([] : List Keyword).length + (if ([] : List Keyword).isEmpty then 0 else 1) < 30)) = true := by rfl)
    (hline : (apos.endLine == cpos.line) = true := by rfl) (hs : starEach [a] X.env = (false, eval a X.env) :: starEach [] X.env := by rfl) :
    DE X G S (.Call (.Attribute o "pop" apos) [a] [] cpos) e (S2.set i (.lst (xs.eraseIdx j))) :=
  pe_wk (pe_bm PySem.F.plainAttrs_list PySem.F.slot_list_pop PySem.F.type_list_pop mt_popAt ho (da_cons ha da_nil hs) hbase hfew hline hs rfl) fun σ H Q ⟨Hi, al, w, s, k⟩ => ⟨Hi, al, w, s, fun Hi1 H1 al1 v n1 w1 r1 => by
    obtain ⟨ys, hy⟩ := hi
    obtain ⟨ad, h1, rfl⟩ := r1
    obtain ⟨us, e1, _⟩ := cell_lst w1 hy h1
    refine ⟨.inl ⟨rfl, us, SqL.of e1⟩, Hi1, al1, w1, s.mono n1, fun Hi2 H2 al2 vs n2 w2 r2 => ?_⟩
    cases r2 with
    | cons r3 t =>
      cases t
      cases r3
      obtain ⟨ad2, h2, e2⟩ := EnR.mono (K := X.K) n2 (e := .p i) ⟨ad, h1, rfl⟩
      cases e2
      obtain ⟨us2, e3, rp⟩ := cell_lst w2 hc h2
      obtain ⟨v, g1, g2⟩ := paired_get rp he
      refine ⟨ad, us2, n, j, v, rfl, rfl, e3, hn.1, hn.2, by rw [← paired_len rp]; exact hj, g1, ?_⟩
      obtain ⟨w3, n3⟩ := w2.write (c' := .lst (xs.eraseIdx j)) (o := .lst (us2.eraseIdx j)) hc h2 (fun z => nomatch z) (paired_erase j rp)
      exact k _ _ _ _ ((n1.trans n2).trans n3) w3 (g2.mono n3)⟩
theorem de_extend {i m : Nat} (hc : S2[i]? = some (.lst xs)) (hm : S2[m]? = some (.lst ys)) (hl : xs.length + ys.length ≤ 1000000) (ho : DE X G S o (.p i) S1) (hi : ∃ ys, S1[i]? = some (.lst ys)) (ha : DE X G S1 a (.p m) S2)
    (hbase : attributeBase o "extend" X.env (eval o X.env) = eval o X.env := by rfl)
    (hfew : ((backTo cpos (starEach [a] X.env)).all (fun x => !x.1) && (backToKw cpos (keywordEach [] X.env)).all (fun x => x.1.isSome)
      && decide ([a].length + ([] : List Keyword).length + (if ([] : List Keyword).isEmpty then 0 else 1) < 30)) = true := by rfl)
    (hline : (apos.endLine == cpos.line) = true := by rfl) (hs : starEach [a] X.env = (false, eval a X.env) :: starEach [] X.env := by rfl) :
    DE X G S (.Call (.Attribute o "extend" apos) [a] [] cpos) (.d .none) (S2.set i (.lst (xs ++ ys))) :=
  pe_wk (pe_bm PySem.F.plainAttrs_list PySem.F.slot_list_extend PySem.F.type_list_extend mt_extend ho (da_cons ha da_nil hs) hbase hfew hline hs rfl) fun σ H Q ⟨Hi, al, w, s, k⟩ => ⟨Hi, al, w, s, fun Hi1 H1 al1 v n1 w1 r1 => by
    obtain ⟨zs, hy⟩ := hi
    obtain ⟨ad, h1, rfl⟩ := r1
    obtain ⟨us, e1, _⟩ := cell_lst w1 hy h1
    refine ⟨.inl ⟨rfl, us, SqL.of e1⟩, Hi1, al1, w1, s.mono n1, fun Hi2 H2 al2 vs n2 w2 r2 => ?_⟩
    cases r2 with
    | cons r3 t =>
      cases t
      obtain ⟨bd, h3, rfl⟩ := r3
      obtain ⟨ad2, h2, e2⟩ := EnR.mono (K := X.K) n2 (e := .p i) ⟨ad, h1, rfl⟩
      cases e2
      obtain ⟨us2, e3, rp⟩ := cell_lst w2 hc h2
      obtain ⟨us3, e4, rp3⟩ := cell_lst w2 hm h3
      refine ⟨ad, bd, us2, us3, rfl, rfl, e3, e4, by rw [← paired_len rp, ← paired_len rp3]; exact Nat.le_trans hl (by decide), ?_⟩
      obtain ⟨w3, n3⟩ := w2.write (c' := .lst (xs ++ ys)) (o := .lst (us2 ++ us3)) hc h2 (fun z => nomatch z) (paired_app rp rp3)
      exact k _ _ _ _ ((n1.trans n2).trans n3) w3 .non⟩
theorem de_join {t : Str} {zs : List Str} (hx : IsSq S2 x (zs.map fun y => En.d (.str y))) (hl : (zs.map (·.length)).sum + zs.length * t.length ≤ 16777216) (ho : DE X G S o (.d (.str t)) S1) (ha : DE X G S1 a x S2)
    (hs : starEach [a] X.env = [(false, eval a X.env)] := by rfl) (hbase : attributeBase o "join" X.env (eval o X.env) = eval o X.env := by rfl) (hline : (apos.endLine == cpos.line) = true := by rfl) :
    DE X G S (.Call (.Attribute o "join" apos) [a] [] cpos) (.d (.str (Txt.join t zs))) S2 :=
  pe_wk (pe_join ho ha hs hbase hline) fun σ H Q ⟨Hi, al, w, s, k⟩ => ⟨Hi, al, w, s, fun Hi1 H1 al1 v n1 w1 r1 => by
    cases r1
    refine ⟨⟨t, rfl⟩, Hi1, al1, w1, s.mono n1, fun Hi2 H2 al2 u n2 w2 r2 => ?_⟩
    obtain ⟨ad, us, rfl, hq, hp⟩ := hx.val w2 r2
    have e := vs_strs hp
    subst e
    exact ⟨t, ad, zs, rfl, rfl, hq, hl, k _ _ _ _ (n1.trans n2) w2 (.str _)⟩⟩
end
end AF

set_option Elab.async false
set_option linter.all false
set_option maxRecDepth 100000
set_option maxHeartbeats 4000000
namespace AF
open PySem PySem.Spec PyProof.Rows L2
/-! ### statements -/
inductive Out where
  | nx (G : Gm) (S : List Cl)
  | rt (e : En) (S : List Cl)
  | bk (G : Gm) (S : List Cl)
  | ct (G : Gm) (S : List Cl)
def OutR (K : Fg) (D : Ends) (Hi' H' : Hp) (al' : List Addr) : Out → Prop
  | .nx G' S' => Wd K Hi' H' al' S' → ∀ σ', Sl K Hi' al' G' σ' → D.nx σ' H'
  | .rt e S' => Wd K Hi' H' al' S' → ∀ v, EnR K Hi' al' e v → D.rt v H'
  | .bk G' S' => Wd K Hi' H' al' S' → ∀ σ', Sl K Hi' al' G' σ' → D.bk σ' H'
  | .ct G' S' => Wd K Hi' H' al' S' → ∀ σ', Sl K Hi' al' G' σ' → D.ct σ' H'
def rS (K : Fg) (G : Gm) (S : List Cl) (o : Out) : TS := fun D σ H => ∃ Hi al, Wd K Hi H al S ∧ Sl K Hi al G σ ∧ ∀ Hi' H' al', Nx Hi H al Hi' H' al' → OutR K D Hi' H' al' o
abbrev DS (X : Cx) (G : Gm) (S : List Cl) (st : Stmt) (o : Out) : Prop := PS X st (rS X.K G S o)
abbrev DB (X : Cx) (G : Gm) (S : List Cl) (sts : List Stmt) (o : Out) : Prop := PSs X sts (rS X.K G S o)
def Out.isNx : Out → Bool
  | .nx _ _ => true
  | _ => false
section
variable {X : Cx} {G G1 G2 : Gm} {S S1 S2 S3 : List Cl} {x y z : En} {a b c ex : Expr} {es : List Expr} {pos : Pos} {st : Stmt} {sts sts' : List Stmt} {o : Out} {xs ys : List En}
theorem db_nil : DB X G S [] (.nx G S) := pss_wk pss_nil fun D σ H ⟨Hi, al, w, s, k⟩ => k _ _ _ (Nx.refl w) w σ s
theorem db_cons (h : DS X G S st (.nx G1 S1)) (h2 : DB X G1 S1 sts o) : DB X G S (st :: sts) o :=
  pss_wk (pss_cons h h2) fun D σ H ⟨Hi, al, w, s, k⟩ => ⟨Hi, al, w, s, fun Hi1 H1 al1 n1 w1 σ1 s1 => ⟨Hi1, al1, w1, s1, fun Hi2 H2 al2 n2 => by
    have z := k _ _ _ (n1.trans n2)
    cases o <;> exact z⟩⟩
theorem db_one (h : DS X G S st o) : DB X G S [st] o := pss_one h
/-- what leaves the block -/
theorem db_out (h : DS X G S st o) (ho : o.isNx = false) : DB X G S (st :: sts) o :=
  pss_wk (pss_cons h (u := tNever) pss_never) fun D σ H ⟨Hi, al, w, s, k⟩ => ⟨Hi, al, w, s, fun Hi1 H1 al1 n1 => by
    have z := k _ _ _ n1
    cases o with
    | nx _ _ => cases ho
    | _ => exact z⟩
theorem ds_expr (h : DE X G S a x S1) (hs : swapsWith a none pos.line X.env = pure false := by rfl) : DS X G S (.Expr a pos) (.nx G S1) :=
  ps_wk (ps_expr h hs) fun D σ H ⟨Hi, al, w, s, k⟩ => ⟨Hi, al, w, s, fun Hi1 H1 al1 v n1 w1 r1 => k _ _ _ n1 w1 σ (s.mono n1)⟩
theorem ds_ret (h : DE X G S a x S1) : DS X G S (.Return (some a) pos) (.rt x S1) :=
  ps_wk (ps_ret h) fun D σ H ⟨Hi, al, w, s, k⟩ => ⟨Hi, al, w, s, fun Hi1 H1 al1 v n1 w1 r1 => k _ _ _ n1 w1 v r1⟩
theorem ds_retN : DS X G S (.Return none pos) (.rt (.d .none) S) :=
  ps_wk ps_retN fun D σ H ⟨Hi, al, w, s, k⟩ => k _ _ _ (Nx.refl w) w .non .non
theorem ds_pass : DS X G S (.Pass pos) (.nx G S) := ps_wk ps_pass fun D σ H ⟨Hi, al, w, s, k⟩ => k _ _ _ (Nx.refl w) w σ s
theorem ds_break : DS X G S (.Break pos) (.bk G S) := ps_wk ps_break fun D σ H ⟨Hi, al, w, s, k⟩ => k _ _ _ (Nx.refl w) w σ s
theorem ds_continue : DS X G S (.Continue pos) (.ct G S) := ps_wk ps_continue fun D σ H ⟨Hi, al, w, s, k⟩ => k _ _ _ (Nx.refl w) w σ s
theorem ds_set {i : Nat} {nm : Str} {pos' : Pos} (h : DE X G S a x S1) (hN : X.N.Nodup) (hi : X.N[i]? = some nm := by rfl) (hx : Loc X.env.scope nm := by first | exact Or.inl rfl | exact Or.inr rfl)
    (hs : swapsWith a (some (.Name nm pos')) pos.line X.env = pure false := by rfl) (hf : X.fn nm = true ∨ X.env.scope.names.lookup nm = some .local := by first | exact .inl rfl | exact .inr rfl | assumption) :
    DS X G S (.Assign [.Name nm pos'] a pos) (.nx (G.set i (some x)) S1) :=
  ps_wk (ps_set hN hi hx h hs hf) fun D σ H ⟨Hi, al, w, s, k⟩ => ⟨Hi, al, w, s, fun Hi1 H1 al1 v n1 w1 r1 => k _ _ _ n1 w1 _ ((s.mono n1).set i r1)⟩
theorem ds_if {t : Bool} (hc : DT X G S c t S1) (ha : t = true → DB X G S1 sts o) (hb : t = false → DB X G S1 sts' o) : DS X G S (.If c sts sts' pos) o := by
  have go : ∀ {Hi Hi1 H H1 : Hp} {al al1 : List Addr} {D : Ends}, (∀ Hi' H' al', Nx Hi H al Hi' H' al' → OutR X.K D Hi' H' al' o) → Nx Hi H al Hi1 H1 al1 → ∀ Hi' H' al', Nx Hi1 H1 al1 Hi' H' al' → OutR X.K D Hi' H' al' o := fun k n1 _ _ _ n2 => k _ _ _ (n1.trans n2)
  cases t with
  | true => exact ps_wk (ps_if hc (ha rfl) (u := tNever) pss_never) fun D σ H ⟨Hi, al, w, s, k⟩ => ⟨Hi, al, w, s, fun Hi1 H1 al1 n1 w1 => iteT ⟨Hi1, al1, w1, s.mono n1, go k n1⟩⟩
  | false => exact ps_wk (ps_if hc (t := tNever) pss_never (hb rfl)) fun D σ H ⟨Hi, al, w, s, k⟩ => ⟨Hi, al, w, s, fun Hi1 H1 al1 n1 w1 => iteF ⟨Hi1, al1, w1, s.mono n1, go k n1⟩⟩
/-- x, y = a, b of two local names -/
theorem ds_par {i j : Nat} {n1 n2 : Str} {px py pt : Pos} {kt k2 pt2} (ha : DA X G S [a, b] [x, y] S1) (hc : X.calm = true) (hN : X.N.Nodup) (hi : X.N[i]? = some n1 := by rfl) (hj : X.N[j]? = some n2 := by rfl) (hij : i ≠ j := by decide)
    (hx : X.env.scope.names.lookup n1 = some .local := by rfl) (hy : X.env.scope.names.lookup n2 = some .local := by rfl)
    (hw : swappedStores [.Tuple [.Name n1 px, .Name n2 py] kt pt] (.Tuple [a, b] k2 pt2) X.env = pure (some [n1, n2]) := by rfl)
    (hs : swapsWithSole [.Tuple [.Name n1 px, .Name n2 py] kt pt] (.Tuple [a, b] k2 pt2) pos.line X.env = pure false := by rfl) :
    DS X G S (.Assign [.Tuple [.Name n1 px, .Name n2 py] kt pt] (.Tuple [a, b] k2 pt2) pos) (.nx ((G.set i (some x)).set j (some y)) S1) :=
  ps_wk (ps_par hc hN hi hj hij hx hy ha hw hs) fun D σ H ⟨Hi, al, w, s, k⟩ => ⟨Hi, al, w, s, fun Hi1 H1 al1 vs n1 w1 r1 => by
    cases r1 with
    | cons r1 t =>
      cases t with
      | cons r2 t => cases t; exact ⟨_, _, rfl, k _ _ _ n1 w1 _ (((s.mono n1).set i r1).set j r2)⟩⟩
/-- x += n of ints -/
theorem ds_aug {op : Operator} {f : Int → Int → Int} {i : Nat} {m n : Int} {nm : Str} {pos' : Pos} (ho : PIp X op (ipI f)) (hg : G[i]? = some (some (.d (.int m)))) (h : DE X G S a (.d (.int n)) S1) (hN : X.N.Nodup) (hi : X.N[i]? = some nm := by rfl) (hx : Loc X.env.scope nm := by first | exact Or.inl rfl | exact Or.inr rfl)
    (hf : X.fn nm = true ∨ X.env.scope.names.lookup nm = some .local := by first | exact .inl rfl | exact .inr rfl | assumption) : DS X G S (.AugAssign (.Name nm pos') op a pos) (.nx (G.set i (some (.d (.int (f m n))))) S1) :=
  ps_wk (ps_aug hN hi hx h ho hf) fun D σ H ⟨Hi, al, w, s, k⟩ => by
    obtain ⟨v, h1, h2⟩ := s.get i _ hg
    cases h2
    exact ⟨_, h1, Hi, al, w, s, fun Hi1 H1 al1 v n1 w1 r1 => by
      cases r1
      exact ⟨m, n, rfl, rfl, k _ _ _ n1 w1 _ ((s.mono n1).set i (.int _))⟩⟩
/-- a[i] = e of a list's cell -/
theorem ds_setL {i : Nat} {n : Int} {j : Nat} {tpos : Pos} {oo : Expr} (hc : S3[i]? = some (.lst xs)) (hj : ixN xs.length n = some j) (ha : DE X G S a x S1) (ho : DE X G S1 oo (.p i) S2) (hb : DE X G S2 b (.d (.int n)) S3)
    (hs : swapsWithSole [.Subscript oo b tpos] a pos.line X.env = pure false := by rfl) (hw : swappedStores [.Subscript oo b tpos] a X.env = pure none := by rfl)
    (h1 : (assignEach [.Subscript oo b tpos] X.env).map (·.2) = [assign (.Subscript oo b tpos) X.env] := by rfl)
    (hq : ∀ v, assign (.Subscript oo b tpos) X.env v = (do let ov ← holding [v] (eval oo X.env); let iv ← holding [v, ov] (eval b X.env); standAt tpos; holding [v, ov, iv] (setItem ov iv v); release [v, ov, iv] []) := by intro _; rfl) :
    DS X G S (.Assign [.Subscript oo b tpos] a pos) (.nx G (S3.set i (.lst (xs.set j x)))) :=
  ps_wk (ps_asg ha (pg_sub ho hb set_list hq) hs hw h1) fun D σ H ⟨Hi, al, w, s, k⟩ => ⟨Hi, al, w, s, fun Hi1 H1 al1 v n1 w1 r1 => ⟨Hi1, al1, w1, s.mono n1, fun Hi2 H2 al2 u n2 w2 r2 => ⟨Hi2, al2, w2, s.mono (n1.trans n2), fun Hi3 H3 al3 u3 n3 w3 r3 => by
    obtain ⟨ad, g1, rfl⟩ := EnR.mono (K := X.K) n3 r2
    cases r3
    obtain ⟨us, e1, rp⟩ := cell_lst w3 hc g1
    refine ⟨ad, us, n, j, rfl, rfl, e1, by rw [← paired_len rp]; exact hj, ?_⟩
    obtain ⟨w4, n4⟩ := w3.write (c' := .lst (xs.set j x)) (o := .lst (us.set j v)) hc g1 (fun z => nomatch z) (paired_set ((r1.mono n2).mono n3) j rp)
    exact k _ _ _ (((n1.trans n2).trans n3).trans n4) w4 σ (s.mono (((n1.trans n2).trans n3).trans n4))⟩⟩⟩

/-! ### targets -/
theorem wipe_get {σ : L2.St} : ∀ {vs : List Nat} {i : Nat}, i ∉ vs → (wipe σ vs)[i]? = σ[i]?
  | [], _, _ => rfl
  | v :: vs, i, h => by
    have h1 : v ≠ i := fun e => h (e ▸ List.mem_cons_self)
    have h2 : i ∉ vs := fun e => h (List.mem_cons_of_mem _ e)
    show ((wipe σ vs).set v none)[i]? = _
    rw [List.getElem?_set_ne h1, wipe_get h2]
theorem wipe_in {σ : L2.St} : ∀ {vs : List Nat} {i : Nat}, i ∈ vs → i < σ.length → (wipe σ vs)[i]? = some none
  | v :: vs, i, h, hl => by
    show ((wipe σ vs).set v none)[i]? = _
    by_cases e : v = i
    · subst e
      rw [List.getElem?_set_self (by rw [wipe_length]; exact hl)]
    · rw [List.getElem?_set_ne e]
      exact wipe_in (by rcases List.mem_cons.mp h with z | z; exact absurd z.symm e; exact z) hl
theorem wipe_ext {σ τ : L2.St} {vs : List Nat} (hl : σ.length = τ.length) (h : ∀ i, i ∉ vs → σ[i]? = τ[i]?) : wipe σ vs = wipe τ vs := by
  apply List.ext_getElem?
  intro i
  by_cases hi : i ∈ vs
  · by_cases hb : i < σ.length
    · rw [wipe_in hi hb, wipe_in hi (by rw [← hl]; exact hb)]
    · rw [List.getElem?_eq_none (by rw [wipe_length]; omega), List.getElem?_eq_none (by rw [wipe_length]; omega)]
  · rw [wipe_get hi, wipe_get hi, h i hi]
theorem wipe_set {σ : L2.St} {vs : List Nat} {i : Nat} {v : Option V} (h : i ∈ vs) : wipe (σ.set i v) vs = wipe σ vs :=
  wipe_ext (by simp) fun j hj => List.getElem?_set_ne (fun e : i = j => hj (by rw [← e]; exact h))
theorem wipe_wipe {σ : L2.St} {vs : List Nat} : wipe (wipe σ vs) vs = wipe σ vs := wipe_ext (wipe_length _ _) fun i hi => wipe_get hi
def wipeG (G : Gm) : List Nat → Gm
  | [] => G
  | v :: vs => (wipeG G vs).set v none
theorem Sl.wipe {K : Fg} {Hi : Hp} {al : List Addr} {σ : L2.St} (s : Sl K Hi al G σ) : ∀ vs : List Nat, Sl K Hi al (wipeG G vs) (L2.wipe σ vs)
  | [] => s
  | v :: vs => by
    have ih := Sl.wipe s vs
    refine ⟨by show ((L2.wipe σ vs).set v none).length = ((wipeG G vs).set v none).length; simp [ih.len], fun i e h => ?_⟩
    by_cases hv : v = i
    · subst hv
      have hl : v < (wipeG G vs).length := by
        have := (List.getElem?_eq_some_iff.mp h).1
        simpa [wipeG] using this
      have : ((wipeG G vs).set v none)[v]? = some (some e) := h
      rw [List.getElem?_set_self hl] at this
      cases this
    · have h' : (wipeG G vs)[i]? = some (some e) := by
        have : ((wipeG G vs).set v none)[i]? = some (some e) := h
        rwa [List.getElem?_set_ne hv] at this
      obtain ⟨u, h1, h2⟩ := ih.get i e h'
      exact ⟨u, by show ((L2.wipe σ vs).set v none)[i]? = _; rw [List.getElem?_set_ne hv]; exact h1, h2⟩
/-- a target takes an entry: the slots ix are set, the entries become f G -/
def TgR (K : Fg) (g : TG) (ix : List Nat) (e : En) (f : Gm → Gm) : Prop := ∀ Hi H al S v σ G Q, Wd K Hi H al S → EnR K Hi al e v → Sl K Hi al G σ →
  (∀ σ', Sl K Hi al (f G) σ' → (∀ vs : List Nat, (∀ i ∈ ix, i ∈ vs) → L2.wipe σ' vs = L2.wipe σ vs) → Q σ' H) → g v σ H Q
theorem tg_name {K : Fg} {i : Nat} {e : En} : TgR K (gName i) [i] e (fun G => G.set i (some e)) := fun Hi H al S v σ G Q w r s k =>
  k _ (s.set i r) fun vs h => wipe_set (h i (by simp))
theorem tg_tup2 {K : Fg} {t1 t2 : TG} {ix1 ix2 : List Nat} {d1 d2 : PyData} {f1 f2 : Gm → Gm} (h1 : TgR K t1 ix1 (.d d1) f1) (h2 : TgR K t2 ix2 (.d d2) f2) :
    TgR K (gTup K 2 (gCons t1 (gCons t2 gNil))) (ix1 ++ ix2) (.d (.tuple [d1, d2])) (fun G => f2 (f1 G)) := fun Hi H al S v σ G Q w r s k => by
  cases r with
  | tup hq hd =>
    cases hd with
    | cons r1 t =>
      cases t with
      | cons r2 t =>
        cases t
        refine ⟨_, _, rfl, sqT_same w.ex hq, rfl, _, _, rfl, h1 Hi H al S _ σ G _ w r1 s fun σ1 s1 z1 => ⟨_, _, rfl, h2 Hi H al S _ σ1 (f1 G) _ w r2 s1 fun σ2 s2 z2 => ⟨rfl, k σ2 s2 fun vs hv => ?_⟩⟩⟩
        rw [z2 vs fun i hi => hv i (List.mem_append_right _ hi), z1 vs fun i hi => hv i (List.mem_append_left _ hi)]
theorem tg_tup3 {K : Fg} {t1 t2 t3 : TG} {ix1 ix2 ix3 : List Nat} {d1 d2 d3 : PyData} {f1 f2 f3 : Gm → Gm} (h1 : TgR K t1 ix1 (.d d1) f1) (h2 : TgR K t2 ix2 (.d d2) f2) (h3 : TgR K t3 ix3 (.d d3) f3) :
    TgR K (gTup K 3 (gCons t1 (gCons t2 (gCons t3 gNil)))) (ix1 ++ (ix2 ++ ix3)) (.d (.tuple [d1, d2, d3])) (fun G => f3 (f2 (f1 G))) := fun Hi H al S v σ G Q w r s k => by
  cases r with
  | tup hq hd =>
    cases hd with
    | cons r1 t =>
      cases t with
      | cons r2 t =>
        cases t with
        | cons r3 t =>
          cases t
          refine ⟨_, _, rfl, sqT_same w.ex hq, rfl, _, _, rfl, h1 Hi H al S _ σ G _ w r1 s fun σ1 s1 z1 => ⟨_, _, rfl, h2 Hi H al S _ σ1 (f1 G) _ w r2 s1 fun σ2 s2 z2 => ⟨_, _, rfl, h3 Hi H al S _ σ2 (f2 (f1 G)) _ w r3 s2 fun σ3 s3 z3 => ⟨rfl, k σ3 s3 fun vs hv => ?_⟩⟩⟩⟩
          rw [z3 vs fun i hi => hv i (List.mem_append_right _ (List.mem_append_right _ hi)), z2 vs fun i hi => hv i (List.mem_append_right _ (List.mem_append_left _ hi)), z1 vs fun i hi => hv i (List.mem_append_left _ hi)]
/-- a tuple taken apart -/
theorem ds_unp {tg : Expr} {g : TG} {ix : List Nat} {f : Gm → Gm} (hg : PG X tg g) (ht : TgR X.K g ix x f) (ha : DE X G S a x S1) (hs : swapsWithSole [tg] a pos.line X.env = pure false := by rfl) (hw : swappedStores [tg] a X.env = pure none := by rfl)
    (h1 : (assignEach [tg] X.env).map (·.2) = [assign tg X.env] := by rfl) : DS X G S (.Assign [tg] a pos) (.nx (f G) S1) :=
  ps_wk (ps_asg ha hg hs hw h1) fun D σ H ⟨Hi, al, w, s, k⟩ => ⟨Hi, al, w, s, fun Hi1 H1 al1 v n1 w1 r1 => ht Hi1 H1 al1 S1 v σ G _ w1 r1 (s.mono n1) fun σ' s' _ => k _ _ _ n1 w1 σ' s'⟩

/-! ### what is walked -/
structure ItR (K : Fg) (Hi0 H0 : Hp) (al0 : List Addr) (J : It) (xs : List En) : Prop where
  go : ∀ i Hi H al, i < xs.length → Nx Hi0 H0 al0 Hi H al → J.go i H
  stop : ∀ Hi H al, Nx Hi0 H0 al0 Hi H al → J.stop xs.length H
  yld : ∀ i Hi H al S v H', i < xs.length → Nx Hi0 H0 al0 Hi H al → Wd K Hi H al S → J.yld i H v H' → ∃ Hi' e, Nx Hi H al Hi' H' al ∧ Wd K Hi' H' al S ∧ xs[i]? = some e ∧ EnR K Hi' al e v
def rI (K : Fg) (G : Gm) (S : List Cl) (xs : List En) (S' : List Cl) : TI := fun σ H R => ∃ Hi al, Wd K Hi H al S ∧ Sl K Hi al G σ ∧
  ∀ Hi' H' al' J, Nx Hi H al Hi' H' al' → Wd K Hi' H' al' S' → ItR K Hi' H' al' J xs → R J H'
abbrev DI (X : Cx) (G : Gm) (S : List Cl) (tg iter : Expr) (xs : List En) (S' : List Cl) : Prop := PI X tg iter (rI X.K G S xs S')
theorem Nx.rd {Hi H Hi' H' : Hp} {al al' : List Addr} (n : Nx Hi H al Hi' H' al') {K : Fg} {ad : Addr} {us : List V} (h : SqL K Hi ad us) : SqL K H' ad us := n.hh.seq (n.ex.seq h)
theorem Nx.rdT {Hi H Hi' H' : Hp} {al al' : List Addr} (n : Nx Hi H al Hi' H' al') {K : Fg} {ad : Addr} {us : List V} (h : SqT K Hi ad us) : SqT K H' ad us := sqT_same n.hh (sqT_same n.ex h)
variable {tg : Expr}
theorem di_list {ds : List PyData} (h : DE X G S a (.d (.list ds)) S1) : DI X G S tg a (ds.map .d) S1 :=
  pi_wk (pi_list h) fun σ H R ⟨Hi, al, w, s, k⟩ => ⟨Hi, al, w, s, fun Hi1 H1 al1 v n1 w1 r1 => by
    cases r1 with
    | lst hq hd =>
      rename_i ad us
      refine ⟨ad, rfl, ⟨us, w1.ex.seq hq⟩, k _ _ _ _ n1 w1 ?_⟩
      have hlen := dps_len hd
      refine ⟨fun i Hi H al hi n => ?_, fun Hi H al n => ?_, fun i Hi H al S v H' hi n w y => ?_⟩
      · rw [List.length_map] at hi
        exact (walk_list (K := X.K) (xs := us)).goes i H (by omega) (n.rd hq)
      · rw [List.length_map, ← hlen]
        exact (walk_list (K := X.K) (xs := us)).stops H (n.rd hq)
      · rw [List.length_map] at hi
        obtain ⟨rfl, e⟩ := (walk_list (K := X.K) (xs := us)).yields i H v H' (by omega) (n.rd hq) y
        have r2 := dp_paired (al := al) (dpsM n.ex _ _ hd)
        have e2 : (ds.map En.d)[i]? = some (.d ds[i]) := by simp [hi]
        obtain ⟨u, h1, h2⟩ := paired_get r2 e2
        rw [e] at h1; cases h1
        exact ⟨Hi, _, Nx.refl w, w, e2, h2⟩⟩
theorem di_tup {ds : List PyData} (h : DE X G S a (.d (.tuple ds)) S1) : DI X G S tg a (ds.map .d) S1 :=
  pi_wk (pi_tup h) fun σ H R ⟨Hi, al, w, s, k⟩ => ⟨Hi, al, w, s, fun Hi1 H1 al1 v n1 w1 r1 => by
    cases r1 with
    | tup hq hd =>
      rename_i ad us
      refine ⟨ad, rfl, ⟨us, sqT_same w1.ex hq⟩, k _ _ _ _ n1 w1 ?_⟩
      have hlen := dps_len hd
      refine ⟨fun i Hi H al hi n => ?_, fun Hi H al n => ?_, fun i Hi H al S v H' hi n w y => ?_⟩
      · rw [List.length_map] at hi
        exact (walk_tup (K := X.K) (xs := us)).goes i H (by omega) (n.rdT hq)
      · rw [List.length_map, ← hlen]
        exact (walk_tup (K := X.K) (xs := us)).stops H (n.rdT hq)
      · rw [List.length_map] at hi
        obtain ⟨rfl, e⟩ := (walk_tup (K := X.K) (xs := us)).yields i H v H' (by omega) (n.rdT hq) y
        have r2 := dp_paired (al := al) (dpsM n.ex _ _ hd)
        have e2 : (ds.map En.d)[i]? = some (.d ds[i]) := by simp [hi]
        obtain ⟨u, h1, h2⟩ := paired_get r2 e2
        rw [e] at h1; cases h1
        exact ⟨Hi, _, Nx.refl w, w, e2, h2⟩⟩
def rangeE (lo : Int) (n : Nat) : List En := (List.range n).map fun (i : Nat) => En.d (.int (lo + (i : Int)))
theorem rangeE_length {lo : Int} {n : Nat} : (rangeE lo n).length = n := by simp [rangeE]
theorem rangeE_get {lo : Int} {n i : Nat} (h : i < n) : (rangeE lo n)[i]? = some (.d (.int (lo + (i : Int)))) := by simp [rangeE, h]
theorem itr_range {K : Fg} {Hi H : Hp} {al : List Addr} {lo : Int} {n : Nat} : ItR K Hi H al (Itr lo n) (rangeE lo n) := by
  refine ⟨fun i Hi H al hi _ => ?_, fun Hi H al _ => ?_, fun i Hi H al S v H' hi _ w y => ?_⟩
  · rw [rangeE_length] at hi; exact walk_range.goes i H hi trivial
  · rw [rangeE_length]; exact walk_range.stops H trivial
  · rw [rangeE_length] at hi
    obtain ⟨rfl, e⟩ := walk_range.yields i H v H' hi trivial y
    subst e
    exact ⟨Hi, _, Nx.refl w, w, rangeE_get hi, .int _⟩
theorem di_range1 {n : Int} {p : Pos} (hm : X.mg "range" = none) (hn : -(2 ^ 62) ≤ n ∧ n < 2 ^ 62) (h : DE X G S a (.d (.int n)) S1) (hg : Gl X "range" := by rfl) (he : starEach [a] X.env = (false, eval a X.env) :: starEach [] X.env := by rfl) (hs : starEach [a] X.env = [(false, eval a X.env)] := by rfl) :
    DI X G S tg (.Call (.Name "range" p) [a] [] pos) (rangeE 0 n.toNat) S1 :=
  pi_wk (pi_range1 hg hm (da_cons h da_nil he) hs) fun σ H R ⟨Hi, al, w, s, k⟩ => ⟨Hi, al, w, s, fun Hi1 H1 al1 vs n1 w1 r1 => by
    cases r1 with
    | cons r t =>
      cases t; cases r
      exact ⟨n, rfl, hn.1, hn.2, k _ _ _ _ n1 w1 itr_range⟩⟩
theorem di_range2 {m n : Int} {p : Pos} (hm : X.mg "range" = none) (hn : -(2 ^ 62) ≤ m ∧ m < 2 ^ 62 ∧ -(2 ^ 62) ≤ n ∧ n < 2 ^ 62) (h : DA X G S [a, b] [.d (.int m), .d (.int n)] S1) (hg : Gl X "range" := by rfl)
    (hs : starEach [a, b] X.env = [(false, eval a X.env), (false, eval b X.env)] := by rfl) (hs2 : starEach [b] X.env = [(false, eval b X.env)] := by rfl) :
    DI X G S tg (.Call (.Name "range" p) [a, b] [] pos) (rangeE m (n - m).toNat) S1 :=
  pi_wk (pi_range2 hg hm h hs hs2) fun σ H R ⟨Hi, al, w, s, k⟩ => ⟨Hi, al, w, s, fun Hi1 H1 al1 vs n1 w1 r1 => by
    cases r1 with
    | cons r t =>
      cases t with
      | cons r2 t =>
        cases t; cases r; cases r2
        exact ⟨m, n, rfl, hn, k _ _ _ _ n1 w1 itr_range⟩⟩
/-- enumerate of a list -/
def enumE (ds : List PyData) : List En := (List.range ds.length).map fun (i : Nat) => En.d (.tuple [.int (i : Int), ds.getD i .none])
theorem enumE_length {ds : List PyData} : (enumE ds).length = ds.length := by simp [enumE]
theorem enumE_get {ds : List PyData} {i : Nat} (h : i < ds.length) : (enumE ds)[i]? = some (.d (.tuple [.int (i : Int), ds[i]])) := by simp [enumE, h]
theorem di_enum {ds : List PyData} {elts : List Expr} {kk : Nat} {p tpos : Pos} (hm : X.mg "enumerate" = none) (h : DE X G S a (.d (.list ds)) S1) (hg : Gl X "enumerate" := by rfl) (he : starEach [a] X.env = (false, eval a X.env) :: starEach [] X.env := by rfl) (hs : starEach [a] X.env = [(false, eval a X.env)] := by rfl) :
    DI X G S (.Tuple elts kk tpos) (.Call (.Name "enumerate" p) [a] [] pos) (enumE ds) S1 :=
  pi_wk (pi_enum hg hm (da_cons h da_nil he) hs) fun σ H R ⟨Hi, al, w, s, k⟩ => ⟨Hi, al, w, s, fun Hi1 H1 al1 vs n1 w1 r1 => by
    cases r1 with
    | cons r t =>
      cases t
      cases r with
      | lst hq hd =>
        rename_i ad us
        refine ⟨ad, us, rfl, w1.ex.seq hq, k _ _ _ _ n1 w1 ?_⟩
        have hlen := dps_len hd
        refine ⟨fun i Hi H al hi n => ?_, fun Hi H al n => ?_, fun i Hi H al S v H' hi n w y => ?_⟩
        · rw [enumE_length] at hi
          exact (walk_enum (K := X.K) (xs := us)).goes i H (by omega) (n.rd hq)
        · rw [enumE_length, ← hlen]
          exact (walk_enum (K := X.K) (xs := us)).stops H (n.rd hq)
        · rw [enumE_length] at hi
          obtain ⟨T, u1, u2, rfl, hT, rfl, e1, e2⟩ := (walk_enum (K := X.K) (xs := us)).yields i H v H' (by omega) (n.rd hq) y
          cases e1
          replace e2 : us[i]? = some u2 := e2
          have r2 := dp_paired (al := al) (dpsM n.ex _ _ hd)
          have e3 : (ds.map En.d)[i]? = some (.d ds[i]) := by simp [hi]
          obtain ⟨u, h1, h2⟩ := paired_get r2 e3
          rw [e2] at h1; cases h1
          obtain ⟨w2, n2⟩ := w.data (o := .tup [.int (i : Nat), u2]) hT
          exact ⟨_, _, n2, w2, enumE_get hi, .tup (SqT.of upd_same) (.cons (.int _) (.cons (dpM n2.ex _ _ h2) .nil))⟩⟩
end
end AF

set_option Elab.async false
set_option linter.all false
set_option maxRecDepth 100000
set_option maxHeartbeats 4000000
namespace AF
open PySem PySem.Spec PyProof.Rows L2
section
variable {X : Cx} {G G1 G2 : Gm} {S S1 S2 S3 : List Cl} {x y z : En} {a b c ex elt iter tg : Expr} {es : List Expr} {pos : Pos} {st : Stmt} {sts sts' body : List Stmt} {o : Out} {xs ys : List En}
/-- G tells less than G' -/
def Le (G G' : Gm) : Prop := G.length = G'.length ∧ ∀ (j : Nat) (e : En), G[j]? = some (some e) → G'[j]? = some (some e)
theorem Le.refl (G : Gm) : Le G G := ⟨rfl, fun _ _ h => h⟩
theorem Le.trans {G G' G'' : Gm} (a : Le G G') (b : Le G' G'') : Le G G'' := ⟨a.1.trans b.1, fun j e h => b.2 j e (a.2 j e h)⟩
theorem le_set {G : Gm} {j : Nat} {o : Option En} (h : G[j]? = some none) : Le G (G.set j o) := ⟨by simp, fun i e hi => by
  by_cases e' : j = i
  · subst e'; rw [h] at hi; cases hi
  · rw [List.getElem?_set_ne e']; exact hi⟩
theorem le_set2 {G : Gm} {j : Nat} {o : Option En} : Le (G.set j none) (G.set j o) := ⟨by simp, fun i e hi => by
  by_cases e' : j = i
  · subst e'
    rw [List.getElem?_set] at hi
    simp at hi
  · rw [List.getElem?_set_ne e'] at hi ⊢; exact hi⟩
theorem le_in {G G' : Gm} {j : Nat} {o : Option En} (h : Le G G') : Le (G.set j o) (G'.set j o) := ⟨by simp [h.1], fun i e hi => by
  by_cases e' : j = i
  · subst e'
    have hl : j < G.length := by
      have := (List.getElem?_eq_some_iff.mp hi).1
      simpa using this
    rw [List.getElem?_set_self hl] at hi
    rw [List.getElem?_set_self (by rw [← h.1]; exact hl)]; exact hi
  · rw [List.getElem?_set_ne e'] at hi ⊢; exact h.2 i e hi⟩
theorem Sl.le {K : Fg} {Hi : Hp} {al : List Addr} {σ : L2.St} (s : Sl K Hi al G σ) (h : Le G1 G) : Sl K Hi al G1 σ := s.forget h.1 h.2
/-- a turn's end -/
def Tn (o : Out) (G : Gm) (S : List Cl) : Prop := ∃ G', Le G G' ∧ (o = .nx G' S ∨ o = .ct G' S)
theorem Tn.nx {G G' : Gm} {S : List Cl} (h : Le G G') : Tn (.nx G' S) G S := ⟨G', h, .inl rfl⟩
theorem Tn.ct {G G' : Gm} {S : List Cl} (h : Le G G') : Tn (.ct G' S) G S := ⟨G', h, .inr rfl⟩
/-- the slots tell less -/
theorem db_le {G' : Gm} (h : DB X G S sts (.nx G' S1)) (hl : Le G1 G') : DB X G S sts (.nx G1 S1) := pss_wk h fun D σ H ⟨Hi, al, w, s, k⟩ => ⟨Hi, al, w, s, fun Hi1 H1 al1 n1 w1 σ1 s1 => k _ _ _ n1 w1 σ1 (s1.le hl)⟩
theorem ds_le {G' : Gm} (h : DS X G S st (.nx G' S1)) (hl : Le G1 G') : DS X G S st (.nx G1 S1) := ps_wk h fun D σ H ⟨Hi, al, w, s, k⟩ => ⟨Hi, al, w, s, fun Hi1 H1 al1 n1 w1 σ1 s1 => k _ _ _ n1 w1 σ1 (s1.le hl)⟩
/-! ### loops -/
/-- a for: Gs, Ss tell the slots and the cells ahead of each turn; every turn but a leaving one goes on -/
theorem ds_for {g : TG} {ix : List Nat} {f : En → Gm → Gm} (Gs : Nat → Gm) (Ss : Nat → List Cl) (hp : PassesOwn (model X.prog X.w) X.A X.env X.xe) (hc : X.calm = true) (hi : DI X G S tg iter xs S1) (hg : PG X tg g)
    (ht : ∀ e ∈ xs, TgR X.K g ix e (f e)) (h0 : Le (Gs 0) G) (h0s : Ss 0 = S1)
    (hb : ∀ (i : Nat) (e : En), xs[i]? = some e → ∃ o', DB X (f e (Gs i)) (Ss i) body o' ∧ Tn o' (Gs (i + 1)) (Ss (i + 1)))
    (hs : ∀ x, foldedSetIterable iter X.env x = pure x := by intro _; rfl) : DS X G S (.For tg iter body [] pos) (.nx (Gs xs.length) (Ss xs.length)) := by
  have hbody : PSs X body (fun D σ H => ∃ (p : { p : Nat × En // xs[p.1]? = some p.2 }), rS X.K (f p.1.2 (Gs p.1.1)) (Ss p.1.1) (Classical.choose (hb p.1.1 p.1.2 p.2)) D σ H) :=
    pss_all fun p => (Classical.choose_spec (hb p.1.1 p.1.2 p.2)).1
  refine ps_wk (ps_for hp hc hi hg hbody hs) fun D σ H ⟨Hi, al, w, s, k⟩ => ⟨Hi, al, w, s, fun Hi1 H1 al1 J n1 w1 it => ?_⟩
  refine ⟨fun i m σ' H' => m = xs.length - i ∧ i ≤ xs.length ∧ ∃ Hi' al', Nx Hi1 H1 al1 Hi' H' al' ∧ Wd X.K Hi' H' al' (Ss i) ∧ Sl X.K Hi' al' (Gs i) σ', ⟨xs.length, by simp, Nat.zero_le _, Hi1, al1, Nx.refl w1, by rw [h0s]; exact w1, (s.mono n1).le h0⟩, ?_⟩
  rintro i m σ2 H2 ⟨rfl, hile, Hi2, al2, n2, w2, s2⟩
  by_cases hlt : i < xs.length
  · refine .inr ⟨it.go i Hi2 H2 al2 hlt n2, fun σ' H' => ∃ Hi' al', Nx Hi1 H1 al1 Hi' H' al' ∧ Wd X.K Hi' H' al' (Ss (i + 1)) ∧ Sl X.K Hi' al' (Gs (i + 1)) σ', fun σ' H' q => ⟨xs.length - (i + 1), by omega, rfl, hlt, q⟩, fun v H3 y => ?_⟩
    obtain ⟨Hi3, e, n3, w3, he, r3⟩ := it.yld i Hi2 H2 al2 (Ss i) v H3 hlt n2 w2 y
    refine ht e (List.mem_of_getElem? he) Hi3 H3 al2 (Ss i) v σ2 (Gs i) _ w3 r3 (s2.mono n3) fun σ4 s4 _ => ?_
    refine ⟨⟨(i, e), he⟩, Hi3, al2, w3, s4, fun Hi5 H5 al5 n5 => ?_⟩
    have sp := (Classical.choose_spec (hb i e he)).2
    have nn := (n2.trans n3).trans n5
    obtain ⟨G9, hle, sp | sp⟩ := sp
    · show OutR X.K _ Hi5 H5 al5 (Classical.choose (hb i e he))
      rw [sp]
      exact fun w5 σ5 s5 => ⟨Hi5, al5, nn, w5, s5.le hle⟩
    · show OutR X.K _ Hi5 H5 al5 (Classical.choose (hb i e he))
      rw [sp]
      exact fun w5 σ5 s5 => ⟨Hi5, al5, nn, w5, s5.le hle⟩
  · have e : i = xs.length := by omega
    subst e
    exact .inl ⟨it.stop Hi2 H2 al2 n2, k _ _ _ (n1.trans n2) w2 σ2 s2⟩
/-- a for that is left at turn k, by a return or a break -/
theorem ds_forX {g : TG} {ix : List Nat} {f : En → Gm → Gm} (Gs : Nat → Gm) (Ss : Nat → List Cl) (kk : Nat) (hp : PassesOwn (model X.prog X.w) X.A X.env X.xe) (hc : X.calm = true) (hi : DI X G S tg iter xs S1) (hg : PG X tg g)
    (ht : ∀ e ∈ xs, TgR X.K g ix e (f e)) (h0 : Le (Gs 0) G) (h0s : Ss 0 = S1) (hk : kk < xs.length)
    (hb : ∀ (i : Nat) (e : En), i < kk → xs[i]? = some e → ∃ o', DB X (f e (Gs i)) (Ss i) body o' ∧ Tn o' (Gs (i + 1)) (Ss (i + 1)))
    (hl : ∀ (e : En), xs[kk]? = some e → ∃ o', DB X (f e (Gs kk)) (Ss kk) body o' ∧ ((∃ G' S', o' = .bk G' S' ∧ o = .nx G' S') ∨ ∃ r S', o' = .rt r S' ∧ o = .rt r S'))
    (hs : ∀ x, foldedSetIterable iter X.env x = pure x := by intro _; rfl) : DS X G S (.For tg iter body [] pos) o := by
  have hbody : PSs X body (fun D σ H => (∃ (p : { p : Nat × En // p.1 < kk ∧ xs[p.1]? = some p.2 }), rS X.K (f p.1.2 (Gs p.1.1)) (Ss p.1.1) (Classical.choose (hb p.1.1 p.1.2 p.2.1 p.2.2)) D σ H) ∨
      ∃ (p : { e : En // xs[kk]? = some e }), rS X.K (f p.1 (Gs kk)) (Ss kk) (Classical.choose (hl p.1 p.2)) D σ H) := by
    refine ⟨fun pins s σ H D I q => ?_⟩
    rcases q with ⟨p, q⟩ | ⟨p, q⟩
    · exact (Classical.choose_spec (hb p.1.1 p.1.2 p.2.1 p.2.2)).1.run pins s σ H D I q
    · exact (Classical.choose_spec (hl p.1 p.2)).1.run pins s σ H D I q
  refine ps_wk (ps_for hp hc hi hg hbody hs) fun D σ H ⟨Hi, al, w, s, k⟩ => ⟨Hi, al, w, s, fun Hi1 H1 al1 J n1 w1 it => ?_⟩
  refine ⟨fun i m σ' H' => m = xs.length - i ∧ i ≤ kk ∧ ∃ Hi' al', Nx Hi1 H1 al1 Hi' H' al' ∧ Wd X.K Hi' H' al' (Ss i) ∧ Sl X.K Hi' al' (Gs i) σ', ⟨xs.length, by simp, Nat.zero_le _, Hi1, al1, Nx.refl w1, by rw [h0s]; exact w1, (s.mono n1).le h0⟩, ?_⟩
  rintro i m σ2 H2 ⟨rfl, hile, Hi2, al2, n2, w2, s2⟩
  have hlt : i < xs.length := by omega
  refine .inr ⟨it.go i Hi2 H2 al2 hlt n2, fun σ' H' => i < kk ∧ ∃ Hi' al', Nx Hi1 H1 al1 Hi' H' al' ∧ Wd X.K Hi' H' al' (Ss (i + 1)) ∧ Sl X.K Hi' al' (Gs (i + 1)) σ', fun σ' H' q => ⟨xs.length - (i + 1), by omega, rfl, by omega, q.2⟩, fun v H3 y => ?_⟩
  obtain ⟨Hi3, e, n3, w3, he, r3⟩ := it.yld i Hi2 H2 al2 (Ss i) v H3 hlt n2 w2 y
  refine ht e (List.mem_of_getElem? he) Hi3 H3 al2 (Ss i) v σ2 (Gs i) _ w3 r3 (s2.mono n3) fun σ4 s4 _ => ?_
  by_cases hik : i < kk
  · refine .inl ⟨⟨(i, e), hik, he⟩, Hi3, al2, w3, s4, fun Hi5 H5 al5 n5 => ?_⟩
    have sp := (Classical.choose_spec (hb i e hik he)).2
    have nn := (n2.trans n3).trans n5
    obtain ⟨G9, hle, sp | sp⟩ := sp
    · show OutR X.K _ Hi5 H5 al5 (Classical.choose (hb i e hik he))
      rw [sp]
      exact fun w5 σ5 s5 => ⟨hik, Hi5, al5, nn, w5, s5.le hle⟩
    · show OutR X.K _ Hi5 H5 al5 (Classical.choose (hb i e hik he))
      rw [sp]
      exact fun w5 σ5 s5 => ⟨hik, Hi5, al5, nn, w5, s5.le hle⟩
  · have ek : i = kk := by omega
    subst ek
    refine .inr ⟨⟨e, he⟩, Hi3, al2, w3, s4, fun Hi5 H5 al5 n5 => ?_⟩
    have sp := (Classical.choose_spec (hl e he)).2
    have nn := n1.trans ((n2.trans n3).trans n5)
    rcases sp with ⟨G', S', sp, so⟩ | ⟨r, S', sp, so⟩
    · show OutR X.K _ Hi5 H5 al5 (Classical.choose (hl e he))
      rw [sp]
      have z := k _ _ _ nn
      rw [so] at z
      exact z
    · show OutR X.K _ Hi5 H5 al5 (Classical.choose (hl e he))
      rw [sp]
      have z := k _ _ _ nn
      rw [so] at z
      exact z
/-- a while of n turns -/
theorem ds_while (Gs : Nat → Gm) (Ss Ts : Nat → List Cl) (n : Nat) (hp : PassesOwn (model X.prog X.w) X.A X.env X.xe) (h0 : Le (Gs 0) G) (h0s : Ss 0 = S)
    (hc : ∀ i, i ≤ n → DT X (Gs i) (Ss i) c (decide (i < n)) (Ts i))
    (hb : ∀ i, i < n → ∃ o', DB X (Gs i) (Ts i) body o' ∧ Tn o' (Gs (i + 1)) (Ss (i + 1))) : DS X G S (.While c body [] pos) (.nx (Gs n) (Ts n)) := by
  have htest : PT X c (fun σ H Q => ∃ (p : { i : Nat // i ≤ n }), rT X.K (Gs p.1) (Ss p.1) (decide (p.1 < n)) (Ts p.1) σ H Q) := pt_all fun p => hc p.1 p.2
  have hbody : PSs X body (fun D σ H => ∃ (p : { i : Nat // i < n }), rS X.K (Gs p.1) (Ts p.1) (Classical.choose (hb p.1 p.2)) D σ H) := pss_all fun p => (Classical.choose_spec (hb p.1 p.2)).1
  refine ps_wk (ps_while hp htest hbody) fun D σ H ⟨Hi, al, w, s, k⟩ => ?_
  refine ⟨fun m σ' H' => ∃ i, m = n - i ∧ i ≤ n ∧ ∃ Hi' al', Nx Hi H al Hi' H' al' ∧ Wd X.K Hi' H' al' (Ss i) ∧ Sl X.K Hi' al' (Gs i) σ', ⟨n, 0, by simp, Nat.zero_le _, Hi, al, Nx.refl w, by rw [h0s]; exact w, s.le h0⟩, ?_⟩
  rintro m σ2 H2 ⟨i, rfl, hile, Hi2, al2, n2, w2, s2⟩
  refine ⟨⟨i, hile⟩, Hi2, al2, w2, s2, fun Hi3 H3 al3 n3 w3 => ?_⟩
  by_cases hlt : i < n
  · rw [decide_eq_true hlt]
    refine iteT ⟨fun σ' H' => ∃ Hi' al', Nx Hi H al Hi' H' al' ∧ Wd X.K Hi' H' al' (Ss (i + 1)) ∧ Sl X.K Hi' al' (Gs (i + 1)) σ', fun σ' H' q => ⟨n - (i + 1), by omega, i + 1, rfl, hlt, q⟩, ?_⟩
    refine ⟨⟨i, hlt⟩, Hi3, al3, w3, s2.mono n3, fun Hi5 H5 al5 n5 => ?_⟩
    have sp := (Classical.choose_spec (hb i hlt)).2
    have nn := (n2.trans n3).trans n5
    obtain ⟨G9, hle, sp | sp⟩ := sp
    · show OutR X.K _ Hi5 H5 al5 (Classical.choose (hb i hlt))
      rw [sp]
      exact fun w5 σ5 s5 => ⟨Hi5, al5, nn, w5, s5.le hle⟩
    · show OutR X.K _ Hi5 H5 al5 (Classical.choose (hb i hlt))
      rw [sp]
      exact fun w5 σ5 s5 => ⟨Hi5, al5, nn, w5, s5.le hle⟩
  · have e : i = n := by omega
    subst e
    rw [decide_eq_false hlt]
    exact iteF (k _ _ _ (n2.trans n3) w3 σ2 (s2.mono n3))
/-! ### comprehensions -/
/-- the entries that are kept -/
def picks (bs : Nat → Bool) (fs : Nat → En) : Nat → List En
  | 0 => []
  | n + 1 => picks bs fs n ++ (if bs n then [fs n] else [])
theorem picks_len {bs : Nat → Bool} {fs : Nat → En} : ∀ n, (picks bs fs n).length ≤ n
  | 0 => Nat.le_refl _
  | n + 1 => by
    have := picks_len (bs := bs) (fs := fs) n
    show (picks bs fs n ++ (if bs n then [fs n] else [])).length ≤ n + 1
    by_cases h : bs n = true
    · rw [if_pos h]; simp; omega
    · rw [if_neg h]; simp; omega
/-- a comprehension: as an expression, and given to a name -/
structure LC (X : Cx) (G : Gm) (S : List Cl) (c : Expr) (r : En) (S' : List Cl) : Prop where
  pe : DE X G S c r S'
  as : ∀ {i : Nat} {nm : Str} {py spos : Pos}, X.N[i]? = some nm → X.env.scope.names.lookup nm = some .local → swapsWith c (some (.Name nm py)) spos.line X.env = pure true → DS X G S (.Assign [.Name nm py] c spos) (.nx (G.set i (some r)) S')
theorem LC.to {r r' : En} {S' S'' : List Cl} (h : LC X G S c r S') (he : r = r') (hs : S' = S'') : LC X G S c r' S'' := by subst he; subst hs; exact h
/-- name = [..] -/
theorem ds_setLc {i : Nat} {nm : Str} {py : Pos} {r : En} {S' : List Cl} (h : LC X G S c r S') (hi : X.N[i]? = some nm := by rfl) (hx : X.env.scope.names.lookup nm = some .local := by rfl)
    (hs : swapsWith c (some (.Name nm py)) pos.line X.env = pure true := by exact sw_true rfl rfl rfl (by decide +kernel)) : DS X G S (.Assign [.Name nm py] c pos) (.nx (G.set i (some r)) S') := h.as hi hx hs
def lcT (K : Fg) (xs : List En) (Gf : En → Gm) (Ss Ts : Nat → List Cl) (bs : Nat → Bool) : TT := fun σ H Q => ∃ (p : { p : Nat × En // xs[p.1]? = some p.2 }), rT K (Gf p.1.2) (Ss p.1.1) (bs p.1.1) (Ts p.1.1) σ H Q
def lcE (K : Fg) (xs : List En) (Gf : En → Gm) (Ss Ts : Nat → List Cl) (bs : Nat → Bool) (fs : Nat → En) : TE := fun σ H Q => ∃ (p : { p : Nat × En // xs[p.1]? = some p.2 ∧ bs p.1 = true }), rE K (Gf p.1.2) (Ts p.1.1) (fs p.1.1) (Ss (p.1.1 + 1)) σ H Q
theorem lc_read {K : Fg} {own : List Nat} {g : TG} {ix : List Nat} {f : En → Gm → Gm} (Ss Ts : Nat → List Cl) (bs : Nat → Bool) (fs : Nat → En) (ht : ∀ e ∈ xs, TgR K g ix e (f e)) (hix : ∀ i ∈ ix, i ∈ own) (hl : xs.length ≤ 1000000) (h0s : Ss 0 = S1)
    (hbn : ∀ i, i < xs.length → bs i = false → Ss (i + 1) = Ts i) (σ : L2.St) (H : Hp) (Q : VK) (hr : rE K G S (.p (Ss xs.length).length) (Ss xs.length ++ [.lst (picks bs fs xs.length)]) σ H Q) :
    tLc (rI K G S xs S1) g (lcT K xs (fun e => f e (wipeG G own)) Ss Ts bs) (lcE K xs (fun e => f e (wipeG G own)) Ss Ts bs fs) own σ H Q := by
  obtain ⟨Hi, al, w, s, k⟩ := hr
  refine ⟨Hi, al, w, s, fun Hi1 H1 al1 J n1 w1 it => ?_⟩
  intro D hD
  have hDal : D ∉ al1 := fun z => w1.on D z hD
  have hDi : Hi1 D = none := w1.ex.free hD
  -- the new list stands aside
  have w1' : ∀ o : HO, Wd K Hi1 (upd H1 D o) al1 S1 := fun o => by
    refine ⟨fun b u q => by rw [upd_ne (ne_of_none q hDi)]; exact w1.ex _ _ q, w1.nd, w1.len, fun b hb => ?_, fun i c b h1 h2 h3 => ?_⟩
    · have e : b ≠ D := fun z => hDal (z ▸ hb)
      rw [upd_ne e]; exact w1.on b hb
    · have e : b ≠ D := fun z => hDal (z ▸ List.mem_of_getElem? h2)
      rw [upd_ne e]; exact w1.cells i c b h1 h2 h3
  refine ⟨fun i m H' => m = xs.length - i ∧ i ≤ xs.length ∧ ∃ Hi' al' acc, Nx Hi1 (upd H1 D (.lst [])) al1 Hi' (upd H' D (.lst [])) al' ∧ Nx Hi1 H1 al1 Hi' H' al' ∧ Wd K Hi' H' al' (Ss i) ∧ D ∉ al' ∧ Hi' D = none ∧ H' D = some (.lst acc) ∧ Paired (EnR K Hi' al') (picks bs fs i) acc,
    ⟨xs.length, by simp, Nat.zero_le _, Hi1, al1, [], ?_, ?_, by rw [h0s]; exact w1' _, hDal, hDi, upd_same, .nil⟩, ?_⟩
  · rw [upd_upd]; exact Nx.refl (w1' _)
  · exact ⟨Same.refl _, (w1' _).ex, (w1' _).on, ⟨[], by simp, by simp⟩, fun q h1 h2 h3 => ⟨h1, by
      have e : q ≠ D := fun z => h2 (z ▸ hD)
      rw [upd_ne e]⟩⟩
  rintro i m H2 ⟨rfl, hile, Hi2, al2, acc, nD, n2, w2, hD2, hDi2, hacc, hpk⟩
  by_cases hlt : i < xs.length
  · refine .inr ⟨it.go i Hi2 H2 al2 hlt n2, fun H' => ∃ Hi' al' acc, Nx Hi1 (upd H1 D (.lst [])) al1 Hi' (upd H' D (.lst [])) al' ∧ Nx Hi1 H1 al1 Hi' H' al' ∧ Wd K Hi' H' al' (Ss (i + 1)) ∧ D ∉ al' ∧ Hi' D = none ∧ H' D = some (.lst acc) ∧ Paired (EnR K Hi' al') (picks bs fs (i + 1)) acc,
      fun H' q => ⟨xs.length - (i + 1), by omega, rfl, hlt, q⟩, fun v H3 y => ?_⟩
    obtain ⟨Hi3, e, n3, w3, hx, r3⟩ := it.yld i Hi2 H2 al2 (Ss i) v H3 hlt n2 w2 y
    -- what stands at D is not touched by what is walked, tested, made
    have keepD : ∀ {Hi' H' : Hp} {al' : List Addr}, Nx Hi2 H2 al2 Hi' H' al' → D ∉ al' ∧ Hi' D = none ∧ H' D = some (.lst acc) := fun {Hi' H' al'} n => by
      obtain ⟨f1, f2⟩ := n.fr D hDi2 (by rw [hacc]; exact fun z => nomatch z) hD2
      obtain ⟨be, e1, hb⟩ := n.pre
      refine ⟨fun z => ?_, f1, f2.trans hacc⟩
      rw [e1] at z
      rcases List.mem_append.mp z with z | z
      · exact hD2 z
      · have := hb D z; rw [hacc] at this; cases this
    refine ht e (List.mem_of_getElem? hx) Hi3 H3 al2 (Ss i) v _ (wipeG G (own)) _ w3 r3 ((((s.mono n1).mono n2).mono n3).wipe _) fun σ4 s4 wp => ⟨(wp _ hix).trans wipe_wipe, ?_⟩
    refine ⟨⟨(i, e), hx⟩, Hi3, al2, w3, s4, fun Hi4 H4 al4 n4 w4 => ?_⟩
    by_cases hbi : bs i = true
    · rw [hbi]
      refine iteT ⟨⟨(i, e), hx, hbi⟩, Hi4, al4, w4, s4.mono n4, fun Hi5 H5 al5 u n5 w5 r5 => ?_⟩
      have n25 := (n3.trans n4).trans n5
      obtain ⟨k1, k2, k3⟩ := keepD n25
      have hlen := paired_len hpk
      have hpl := picks_len (bs := bs) (fs := fs) i
      refine ⟨acc, k3, by rw [← hlen]; exact Nat.lt_of_lt_of_le (Nat.lt_of_le_of_lt hpl (Nat.lt_of_lt_of_le hlt hl)) (by decide), Hi5, al5, acc ++ [u], ?_, ?_, ?_, k1, k2, upd_same, ?_⟩
      · rw [upd_upd]
        have nt := n2.trans n25
        exact ⟨nt.ex, fun b o q => by rw [upd_ne (ne_of_none q k2)]; exact nt.hh _ _ q, fun b hb => by
            have e' : b ≠ D := fun z => k1 (z ▸ hb)
            rw [upd_ne e']; exact nt.on b hb, by
            obtain ⟨be, e1, hbb⟩ := nt.pre
            refine ⟨be, e1, fun b hb => ?_⟩
            have e' : b ≠ D := fun z => k1 (by rw [e1, ← z]; exact List.mem_append_right _ hb)
            rw [upd_ne e']; exact hbb b hb, fun q h1 h2 h3 => by
            by_cases e' : q = D
            · subst e'; rw [upd_same, upd_same]; exact ⟨k2, rfl⟩
            · rw [upd_ne e'] at h2 ⊢
              rw [upd_ne e']
              exact nt.fr q h1 h2 h3⟩
      · have nt := n2.trans n25
        exact ⟨nt.ex, fun b o q => by rw [upd_ne (ne_of_none q k2)]; exact nt.hh _ _ q, fun b hb => by
            have e' : b ≠ D := fun z => k1 (z ▸ hb)
            rw [upd_ne e']; exact nt.on b hb, nt.pre, fun q h1 h2 h3 => by
            have e' : q ≠ D := fun z => h2 (z ▸ hD)
            rw [upd_ne e']; exact nt.fr q h1 h2 h3⟩
      · refine ⟨fun b o q => by rw [upd_ne (ne_of_none q k2)]; exact w5.ex _ _ q, w5.nd, w5.len, fun b hb => ?_, fun j c' b h1 h2 h3 => ?_⟩
        · have e' : b ≠ D := fun z => k1 (z ▸ hb)
          rw [upd_ne e']; exact w5.on b hb
        · have e' : b ≠ D := fun z => k1 (z ▸ List.mem_of_getElem? h2)
          rw [upd_ne e']; exact w5.cells j c' b h1 h2 h3
      · show Paired _ (picks bs fs i ++ (if bs i then [fs i] else [])) _
        rw [hbi, if_pos rfl]
        exact paired_app (paired_imp (fun _ _ r => EnR.mono n25 r) hpk) (.cons r5 .nil)
    · have hbf : bs i = false := by cases q : bs i <;> simp_all
      rw [hbf]
      have n24 := n3.trans n4
      obtain ⟨k1, k2, k3⟩ := keepD n24
      refine iteF ⟨Hi4, al4, acc, ?_, n2.trans n24, by rw [hbn i hlt hbf]; exact w4, k1, k2, k3, ?_⟩
      · have nt := n2.trans n24
        exact ⟨nt.ex, fun b o q => by rw [upd_ne (ne_of_none q k2)]; exact nt.hh _ _ q, fun b hb => by
            have e' : b ≠ D := fun z => k1 (z ▸ hb)
            rw [upd_ne e']; exact nt.on b hb, by
            obtain ⟨be, e1, hbb⟩ := nt.pre
            refine ⟨be, e1, fun b hb => ?_⟩
            have e' : b ≠ D := fun z => k1 (by rw [e1, ← z]; exact List.mem_append_right _ hb)
            rw [upd_ne e']; exact hbb b hb, fun q h1 h2 h3 => by
            by_cases e' : q = D
            · subst e'; rw [upd_same, upd_same]; exact ⟨k2, rfl⟩
            · rw [upd_ne e'] at h2 ⊢
              rw [upd_ne e']
              exact nt.fr q h1 h2 h3⟩
      · show Paired _ (picks bs fs i ++ (if bs i then [fs i] else [])) _
        rw [hbf, if_neg (by decide), List.append_nil]
        exact paired_imp (fun _ _ r => EnR.mono n24 r) hpk
  · have e : i = xs.length := by omega
    subst e
    refine .inl ⟨it.stop Hi2 H2 al2 n2, ?_⟩
    have n12 := n1.trans n2
    refine k Hi2 H2 (al2 ++ [D]) _ ?_ ?_ ⟨D, by rw [← w2.len]; simp, rfl⟩
    · obtain ⟨be, e1, hb⟩ := n12.pre
      refine ⟨n12.ex, n12.hh, fun b hb' => ?_, ⟨be ++ [D], by rw [e1, List.append_assoc], fun b hb' => ?_⟩, n12.fr⟩
      · rcases List.mem_append.mp hb' with z | z
        · exact n12.on b z
        · rw [List.mem_singleton.mp z, hacc]; exact fun z => nomatch z
      · rcases List.mem_append.mp hb' with z | z
        · exact hb b z
        · rw [List.mem_singleton.mp z]
          refine n1.back hD fun z => ?_
          obtain ⟨be1, e2, _⟩ := n1.pre
          exact hDal (by rw [e2]; exact List.mem_append_left _ z)
    · have nA : Nx Hi2 H2 al2 Hi2 H2 al2 := Nx.refl w2
      refine ⟨w2.ex, ?_, by simp [w2.len], fun b hb' => ?_, fun j c' b h1 h2 h3 => ?_⟩
      · rw [List.nodup_append]
        exact ⟨w2.nd, by simp, fun a' ha b' hb => by rw [List.mem_singleton.mp hb]; exact fun z => hD2 (z ▸ ha)⟩
      · rcases List.mem_append.mp hb' with z | z
        · exact w2.on b z
        · rw [List.mem_singleton.mp z, hacc]; exact fun z => nomatch z
      · have up : ∀ {e : En} {v : V}, EnR K Hi2 al2 e v → EnR K Hi2 (al2 ++ [D]) e v := fun {e v} r => by
          cases e with
          | d x => exact r
          | p i =>
            obtain ⟨a', g1, g2⟩ := r
            exact ⟨a', by rw [List.getElem?_append_left (List.getElem?_eq_some_iff.mp g1).1]; exact g1, g2⟩
        by_cases hj : j < (Ss xs.length).length
        · rw [List.getElem?_append_left hj] at h1
          rw [List.getElem?_append_left (by rw [w2.len]; exact hj)] at h2
          obtain ⟨z1, z2⟩ := w2.cells j c' b h1 h2 h3
          refine ⟨z1, ?_⟩
          cases c' with
          | gone => trivial
          | lst es =>
            cases q : H2 b with
            | none => rw [q] at z2; exact z2.elim
            | some o =>
              rw [q] at z2
              cases o <;> first | exact z2.elim | exact paired_imp (fun _ _ r => up r) z2
          | ins C' fs' =>
            cases q : H2 b with
            | none => rw [q] at z2; exact z2.elim
            | some o =>
              rw [q] at z2
              cases o <;> first | exact z2.elim | exact ⟨z2.1, paired_imp (fun _ _ r => ⟨r.1, up r.2⟩) z2.2⟩
          | ext R' es' =>
            obtain ⟨o', vs', q, h4, h5⟩ := z2.ext_get
            rw [q, CR.ext_some]
            exact ⟨vs', h4, paired_imp (fun _ _ r => up r) h5⟩
        · have hj' : j = (Ss xs.length).length := by
            have := (List.getElem?_eq_some_iff.mp h1).1
            simp at this; omega
          subst hj'
          rw [List.getElem?_append_right (Nat.le_refl _)] at h1
          rw [← w2.len, List.getElem?_append_right (Nat.le_refl _)] at h2
          simp at h1 h2
          subst h1; subst h2
          refine ⟨hDi2, ?_⟩
          rw [hacc]
          exact paired_imp (fun _ _ r => up r) hpk
/-- [elt for tg in iter if ..]: Ss the cells ahead of each turn, Ts behind the tests, bs whether the item is kept, fs the entries -/
theorem lc_gen {scope : Scope} {own : List (Str × Nat)} {ifs : List Expr} {g : TG} {ix : List Nat} {f : En → Gm → Gm} (Ss Ts : Nat → List Cl) (bs : Nat → Bool) (fs : Nat → En) (hc : X.calm = true) (hN : X.N.Nodup) (hi : DI X G S tg iter xs S1) (ok : BlkOk X.N X.env.scope scope own)
    (hg : ∀ (s : Shared) (H : Hp) (C : Addr) (cl : List (Str × Addr)) (fp : List Addr), PG (X.blk s H scope (compEnvC scope cl C X.env) fp) tg g) (ht : ∀ e ∈ xs, TgR X.K g ix e (f e)) (hix : ∀ i ∈ ix, i ∈ own.map (·.2)) (hl : xs.length ≤ 1000000) (h0s : Ss 0 = S1)
    (htt : ∀ (i : Nat) (e : En), xs[i]? = some e → ∀ (s : Shared) (H : Hp) (C : Addr) (cl : List (Str × Addr)) (fp : List Addr), PTs (X.blk s H scope (compEnvC scope cl C X.env) fp) ifs (rT X.K (f e (wipeG G (own.map (·.2)))) (Ss i) (bs i) (Ts i)))
    (he : ∀ (i : Nat) (e : En), xs[i]? = some e → bs i = true → ∀ (s : Shared) (H : Hp) (C : Addr) (cl : List (Str × Addr)) (fp : List Addr), DE (X.blk s H scope (compEnvC scope cl C X.env) fp) (f e (wipeG G (own.map (·.2)))) (Ts i) elt (fs i) (Ss (i + 1)))
    (hbn : ∀ i, i < xs.length → bs i = false → Ss (i + 1) = Ts i)
    (hs : ∀ x, foldedSetIterable iter X.env x = pure x := by intro _; rfl) :
    LC X G S (.ListComp elt [⟨tg, iter, ifs, 0⟩] scope pos) (.p (Ss xs.length).length) (Ss xs.length ++ [.lst (picks bs fs xs.length)]) where
  pe := pe_wk (pe_lc (own := own) (g := g) (tt := lcT X.K xs (fun e => f e (wipeG G (own.map (·.2)))) Ss Ts bs) (te := lcE X.K xs (fun e => f e (wipeG G (own.map (·.2)))) Ss Ts bs fs)
    hc hN hi ok hg (fun s H C cl fp => pts_all fun p => htt p.1.1 p.1.2 p.2 s H C cl fp) (fun s H C cl fp => pe_all fun p => he p.1.1 p.1.2 p.2.1 p.2.2 s H C cl fp) hs) fun σ H Q hr => lc_read Ss Ts bs fs ht hix hl h0s hbn σ H Q hr
  as := fun {i nm py spos} hi' hx hsw => by
    exact ps_wk (ps_setLc (i := i) (own := own) (g := g) (tt := lcT X.K xs (fun e => f e (wipeG G (List.map (fun (x : Str × Nat) => x.2) own))) Ss Ts bs) (te := lcE X.K xs (fun e => f e (wipeG G (List.map (fun (x : Str × Nat) => x.2) own))) Ss Ts bs fs)
    hc hN hi' hx hsw hi ok hg (fun s H C cl fp => pts_all fun p => htt p.1.1 p.1.2 p.2 s H C cl fp) (fun s H C cl fp => pe_all fun p => he p.1.1 p.1.2 p.2.1 p.2.2 s H C cl fp) hs) fun D σ H ⟨Hi, al, w, s, k⟩ =>
      lc_read Ss Ts bs fs ht hix hl h0s hbn σ H _ ⟨Hi, al, w, s, fun Hi1 H1 al1 v n1 w1 r1 => k _ _ _ n1 w1 _ ((s.mono n1).set i r1)⟩
theorem picks_map {h : En → En} {xs : List En} {bs : Nat → Bool} {fs : Nat → En} {q : En → Bool} (hb : ∀ (i : Nat) (e : En), xs[i]? = some e → bs i = q e) (hf : ∀ (i : Nat) (e : En), xs[i]? = some e → fs i = h e) : ∀ n, n ≤ xs.length → picks bs fs n = ((xs.take n).filter q).map h
  | 0, _ => by simp [picks]
  | n + 1, hn => by
    have e : xs[n]? = some xs[n] := by simp
    have e2 : xs.take (n + 1) = xs.take n ++ [xs[n]] := by simp
    rw [picks, picks_map hb hf n (by omega), e2, List.filter_append, List.map_append, hb n _ e, hf n _ e]
    congr 1
    by_cases hq : q xs[n] = true
    · rw [if_pos hq, List.filter_cons, if_pos hq]; rfl
    · rw [if_neg hq, List.filter_cons, if_neg hq]; rfl
/-- [elt for tg in iter], nothing changed on the way -/
theorem lc_m {scope : Scope} {own : List (Str × Nat)} {g : TG} {ix : List Nat} {f : En → Gm → Gm} (h : En → En) (hc : X.calm = true) (hN : X.N.Nodup) (hi : DI X G S tg iter xs S1) (ok : BlkOk X.N X.env.scope scope own)
    (hg : ∀ (s : Shared) (H : Hp) (C : Addr) (cl : List (Str × Addr)) (fp : List Addr), PG (X.blk s H scope (compEnvC scope cl C X.env) fp) tg g) (ht : ∀ e ∈ xs, TgR X.K g ix e (f e)) (hix : ∀ i ∈ ix, i ∈ own.map (·.2)) (hl : xs.length ≤ 1000000)
    (he : ∀ (e : En), e ∈ xs → ∀ (s : Shared) (H : Hp) (C : Addr) (cl : List (Str × Addr)) (fp : List Addr), DE (X.blk s H scope (compEnvC scope cl C X.env) fp) (f e (wipeG G (own.map (·.2)))) S1 elt (h e) S1)
    (hs : ∀ x, foldedSetIterable iter X.env x = pure x := by intro _; rfl) : LC X G S (.ListComp elt [⟨tg, iter, [], 0⟩] scope pos) (.p S1.length) (S1 ++ [.lst (xs.map h)]) := by
  have z := lc_gen (pos := pos) (fun _ => S1) (fun _ => S1) (fun _ => true) (fun i => h (xs.getD i (.p 0))) hc hN hi ok hg ht hix hl rfl
    (fun i e _ s H C cl fp => ⟨fun pins s σ H Q I ⟨Hi, al, w, sl, k⟩ => pts_nil.run pins s σ H Q I (k _ _ _ (Nx.refl w) w)⟩)
    (fun i e hx _ s H C cl fp => by
      have e2 : xs.getD i (.p 0) = e := by simp [hx]
      rw [e2]; exact he e (List.mem_of_getElem? hx) s H C cl fp) (fun _ _ hb => nomatch hb) hs
  have e3 := picks_map (h := h) (xs := xs) (bs := fun _ => true) (fs := fun i => h (xs.getD i (.p 0))) (q := fun _ => true) (fun _ _ _ => rfl) (fun i e hx => by simp [hx]) xs.length (Nat.le_refl _)
  rw [e3, List.take_length, List.filter_eq_self.mpr (fun _ _ => rfl)] at z
  exact z
/-- [elt for tg in iter if test], nothing changed on the way -/
theorem lc_f {scope : Scope} {own : List (Str × Nat)} {test : Expr} {g : TG} {ix : List Nat} {f : En → Gm → Gm} (q : En → Bool) (h : En → En) (hc : X.calm = true) (hN : X.N.Nodup) (hi : DI X G S tg iter xs S1) (ok : BlkOk X.N X.env.scope scope own)
    (hg : ∀ (s : Shared) (H : Hp) (C : Addr) (cl : List (Str × Addr)) (fp : List Addr), PG (X.blk s H scope (compEnvC scope cl C X.env) fp) tg g) (ht : ∀ e ∈ xs, TgR X.K g ix e (f e)) (hix : ∀ i ∈ ix, i ∈ own.map (·.2)) (hl : xs.length ≤ 1000000)
    (htt : ∀ (e : En), e ∈ xs → ∀ (s : Shared) (H : Hp) (C : Addr) (cl : List (Str × Addr)) (fp : List Addr), DT (X.blk s H scope (compEnvC scope cl C X.env) fp) (f e (wipeG G (own.map (·.2)))) S1 test (q e) S1)
    (he : ∀ (e : En), e ∈ xs → q e = true → ∀ (s : Shared) (H : Hp) (C : Addr) (cl : List (Str × Addr)) (fp : List Addr), DE (X.blk s H scope (compEnvC scope cl C X.env) fp) (f e (wipeG G (own.map (·.2)))) S1 elt (h e) S1)
    (hs : ∀ x, foldedSetIterable iter X.env x = pure x := by intro _; rfl) : LC X G S (.ListComp elt [⟨tg, iter, [test], 0⟩] scope pos) (.p S1.length) (S1 ++ [.lst ((xs.filter q).map h)]) := by
  have z := lc_gen (pos := pos) (fun _ => S1) (fun _ => S1) (fun i => q (xs.getD i (.p 0))) (fun i => h (xs.getD i (.p 0))) hc hN hi ok hg ht hix hl rfl
    (fun i e hx s H C cl fp => by
      have e2 : xs.getD i (.p 0) = e := by simp [hx]
      rw [e2]; exact pts_one (htt e (List.mem_of_getElem? hx) s H C cl fp))
    (fun i e hx hb s H C cl fp => by
      have e2 : xs.getD i (.p 0) = e := by simp [hx]
      rw [e2] at hb ⊢; exact he e (List.mem_of_getElem? hx) hb s H C cl fp) (fun _ _ _ => rfl) hs
  have e3 := picks_map (h := h) (xs := xs) (bs := fun i => q (xs.getD i (.p 0))) (fs := fun i => h (xs.getD i (.p 0))) (q := q) (fun i e hx => by simp [hx]) (fun i e hx => by simp [hx]) xs.length (Nat.le_refl _)
  rw [e3, List.take_length] at z
  exact z
end
end AF

set_option Elab.async false
set_option linter.all false
set_option maxRecDepth 100000
set_option maxHeartbeats 4000000
namespace AF
open PySem PySem.Spec PyProof.Rows L2
/-! ### defs by contracts -/
/-- arguments, cells, what comes back, cells behind -/
abbrev Ct := List En → List Cl → En → List Cl → Prop
def spOf (K : Fg) (C : Ct) : Sp := fun vs H Q _ => ∃ Hi al args S e S', C args S e S' ∧ Wd K Hi H al S ∧ Paired (EnR K Hi al) args vs ∧
  ∀ Hi' H' al' v, Nx Hi H al Hi' H' al' → Wd K Hi' H' al' S' → EnR K Hi' al' e v → Q v H'
section
variable {K : Fg} {Hi H Hi' H' : Hp} {al al' : List Addr} {S S' T : List Cl}
/-- of what was made, one list is taken, the rest is forgotten -/
theorem Wd.pick {j : Nat} {xs : List En} {a : Addr} (w : Wd K Hi H al' (S ++ T)) (hl : S.all (Cl.lo S.length) = true) (hj : T[j]? = some (.lst xs)) (ha : al'[S.length + j]? = some a) (hx : xs.all (En.lo S.length) = true) :
    Wd K Hi H (al'.take S.length ++ [a]) (S ++ [.lst xs]) := by
  have w0 := w.drop hl
  have hlen : al'.length = S.length + T.length := by rw [w.len]; simp
  have hL : (al'.take S.length).length = S.length := w0.len
  have hn : a ∉ al'.take S.length := fun z => by
    obtain ⟨i, hi⟩ := List.mem_iff_getElem?.mp z
    have hil : i < S.length := by rw [← hL]; exact (List.getElem?_eq_some_iff.mp hi).1
    rw [List.getElem?_take_of_lt hil] at hi
    obtain ⟨l1, e1⟩ := List.getElem?_eq_some_iff.mp hi
    obtain ⟨l2, e2⟩ := List.getElem?_eq_some_iff.mp ha
    have := (List.getElem_inj w.nd).mp (e1.trans e2.symm)
    omega
  obtain ⟨z1, z2⟩ := w.cells (S.length + j) (.lst xs) a (by rw [List.getElem?_append_right (Nat.le_add_right _ _), Nat.add_sub_cancel_left]; exact hj) ha (fun z => nomatch z)
  have ona : H a ≠ none := w.on a (List.mem_of_getElem? ha)
  have up : ∀ {e : En} {v : V}, EnR K Hi (al'.take S.length) e v → EnR K Hi (al'.take S.length ++ [a]) e v := fun {e v} r => by
    cases e with
    | d x => exact r
    | p i =>
      obtain ⟨b, g1, g2⟩ := r
      exact ⟨b, by rw [List.getElem?_append_left (List.getElem?_eq_some_iff.mp g1).1]; exact g1, g2⟩
  refine ⟨w0.ex, ?_, by simp [hL], fun b hb => ?_, fun i c b h1 h2 h3 => ?_⟩
  · rw [List.nodup_append]
    exact ⟨w0.nd, by simp, fun x hx y hy => by rw [List.mem_singleton.mp hy]; exact fun z => hn (z ▸ hx)⟩
  · rcases List.mem_append.mp hb with z | z
    · exact w0.on b z
    · rw [List.mem_singleton.mp z]; exact ona
  · by_cases hi : i < S.length
    · rw [List.getElem?_append_left hi] at h1
      rw [List.getElem?_append_left (by rw [hL]; exact hi)] at h2
      obtain ⟨y1, y2⟩ := w0.cells i c b h1 h2 h3
      refine ⟨y1, ?_⟩
      cases c with
      | gone => trivial
      | lst es =>
        cases q : H b with
        | none => rw [q] at y2; exact y2.elim
        | some o =>
          rw [q] at y2
          cases o <;> first | exact y2.elim | exact paired_imp (fun _ _ r => up r) y2
      | ins C' fs' =>
        cases q : H b with
        | none => rw [q] at y2; exact y2.elim
        | some o =>
          rw [q] at y2
          cases o <;> first | exact y2.elim | exact ⟨y2.1, paired_imp (fun _ _ r => ⟨r.1, up r.2⟩) y2.2⟩
      | ext R es =>
        obtain ⟨o', vs, q, h4, h5⟩ := y2.ext_get
        rw [q, CR.ext_some]
        exact ⟨vs, h4, paired_imp (fun _ _ r => up r) h5⟩
    · have hi' : i = S.length := by
        have := (List.getElem?_eq_some_iff.mp h1).1
        simp at this; omega
      subst hi'
      rw [List.getElem?_append_right (Nat.le_refl _)] at h1
      rw [List.getElem?_append_right (by rw [hL]; exact Nat.le_refl _), hL] at h2
      simp at h1 h2
      subst h1; subst h2
      refine ⟨z1, ?_⟩
      cases q : H a with
      | none => rw [q] at z2; exact z2.elim
      | some o =>
        rw [q] at z2
        have e : al' = al'.take S.length ++ al'.drop S.length := (List.take_append_drop _ _).symm
        rw [e] at z2
        cases o <;> first | exact z2.elim | exact paired_imp (fun _ _ r => up r) (paired_lo z2 (by rw [hL]; exact hx))
end
/-- how a body's end gives what the contract says: cells made on the way are forgotten, one new list may be kept -/
inductive Fin (S : List Cl) : Out → En → List Cl → Prop
  | same {e : En} {S' T : List Cl} (hl : S.length ≤ S'.length) (he : e.lo S'.length = true) (hs : S.all (Cl.lo S.length) = true → S'.all (Cl.lo S'.length) = true) : Fin S (.rt e (S' ++ T)) e S'
  | fresh {S0 T : List Cl} {j : Nat} {xs : List En} (hl : S0.length = S.length) (hj : T[j]? = some (.lst xs)) (hx : xs.all (En.lo S.length) = true) (hs : S.all (Cl.lo S.length) = true → S0.all (Cl.lo S.length) = true) :
      Fin S (.rt (.p (S0.length + j)) (S0 ++ T)) (.p S0.length) (S0 ++ [.lst xs])
  | none {G : Gm} {S' T : List Cl} (hl : S.length ≤ S'.length) (hs : S.all (Cl.lo S.length) = true → S'.all (Cl.lo S'.length) = true) : Fin S (.nx G (S' ++ T)) (.d .none) S'
theorem Fin.rt0 {S : List Cl} {e : En} (he : e.lo S.length = true) : Fin S (.rt e S) e S := by
  have := Fin.same (S := S) (S' := S) (T := []) (Nat.le_refl _) he fun h => h
  rwa [List.append_nil] at this
theorem Fin.rtd {S T : List Cl} {d : PyData} : Fin S (.rt (.d d) (S ++ T)) (.d d) S := .same (Nat.le_refl _) rfl fun h => h
theorem Fin.rtd0 {S : List Cl} {d : PyData} : Fin S (.rt (.d d) S) (.d d) S := Fin.rt0 rfl
/-- the slots at a def's entry -/
def startG (N : List Str) (args : List En) : Gm := args.map some ++ List.replicate (N.length - args.length) none
theorem sl_start {K : Fg} {Hi : Hp} {al : List Addr} {N : List Str} {args : List En} {vs : List V} (h : Paired (EnR K Hi al) args vs) : Sl K Hi al (startG N args) (L2.start N vs) := by
  have hl := paired_len h
  refine ⟨by unfold startG L2.start; simp [hl], fun i e he => ?_⟩
  unfold startG at he
  unfold L2.start
  by_cases hi : i < args.length
  · rw [List.getElem?_append_left (by simpa using hi), List.getElem?_map] at he
    cases q : args[i]? with
    | none => rw [q] at he; cases he
    | some e' =>
      rw [q] at he
      have : e' = e := by simpa using he
      subst this
      obtain ⟨v, h1, h2⟩ := paired_get h q
      exact ⟨v, by rw [List.getElem?_append_left (by simpa [← hl] using hi), List.getElem?_map, h1]; rfl, h2⟩
  · rw [List.getElem?_append_right (by simpa using hi)] at he
    simp [List.getElem?_replicate] at he
section
variable {P : Program} {w : World} {K : Fg} {mg : Str → Option Value} {base : Heap}
theorem fin_run {S : List Cl} {o : Out} {e : En} {S' : List Cl} {D : Ends} {Q : VK} {Hi H : Hp} {al : List Addr} (hD : D = { nx := fun _ H' => Q .non H', rt := Q }) (hf : Fin S o e S') (w0 : Wd K Hi H al S)
    (k : ∀ Hi' H' al' v, Nx Hi H al Hi' H' al' → Wd K Hi' H' al' S' → EnR K Hi' al' e v → Q v H') : ∀ Hi' H' al', Nx Hi H al Hi' H' al' → OutR K D Hi' H' al' o := by
  subst hD
  intro Hi' H' al' n
  cases hf with
  | same hl he hs =>
    intro w1 v r
    have hs' := hs w0.lo
    have w2 := w1.drop hs'
    refine k _ _ _ v (n.drop (by rw [w0.len]; exact hl)) w2 ?_
    have e' : al' = al'.take S'.length ++ al'.drop S'.length := (List.take_append_drop _ _).symm
    rw [e'] at r
    exact r.lo (by rw [w2.len]; exact he)
  | @fresh S0 T j xs hl hj hx hs =>
    intro w1 v r
    have hs' := hs w0.lo
    rw [← hl] at hs' hx
    obtain ⟨a, h1, rfl⟩ := r
    have w2 := w1.pick hs' hj h1 hx
    refine k _ _ _ _ ?_ w2 ⟨a, ?_, rfl⟩
    · have n2 := n.drop (n := S0.length) (by rw [w0.len]; omega)
      obtain ⟨be, e1, hb⟩ := n.pre
      obtain ⟨be2, e2, hb2⟩ := n2.pre
      refine ⟨n2.ex, n2.hh, fun b hb' => ?_, ⟨be2 ++ [a], by rw [e2, List.append_assoc], fun b hb' => ?_⟩, n2.fr⟩
      · rcases List.mem_append.mp hb' with z | z
        · exact n2.on b z
        · rw [List.mem_singleton.mp z]; exact n.on a (List.mem_of_getElem? h1)
      · rcases List.mem_append.mp hb' with z | z
        · exact hb2 b z
        · rw [List.mem_singleton.mp z]
          refine hb a ?_
          rw [e1, List.getElem?_append_right (by rw [w0.len]; omega)] at h1
          exact List.mem_of_getElem? h1
    · have hL : (al'.take S0.length).length = S0.length := by
        have hlen : al'.length = S0.length + T.length := by rw [w1.len]; simp
        rw [List.length_take]; omega
      rw [List.getElem?_append_right (by omega), hL]; simp
  | none hl hs =>
    intro w1 σ' s'
    have hs' := hs w0.lo
    exact k _ _ _ _ (n.drop (by rw [w0.len]; exact hl)) (w1.drop hs') .non
/-- a def keeps its contract -/
theorem fn_c {x qual : Str} {st : Stmt} {f : Addr} {fd : FuncData} {N ps : List Str} {k : Nat} {C : Ct} (F : L2.Fun K x qual st f fd) (Sc : FnScope N ps (defScope st)) (hlen : ∀ args S e S', C args S e S' → args.length = ps.length)
    (hb : ∀ (cdv : Value) (A : Around) (outer : List Env) (s : Shared) (H : Hp) (E : XK), Room k (A.deeper (envOfC qual (defScope st) s.heap.objs.size f cdv)) → ∀ args S e S', C args S e S' →
      ∃ o, DB (cxOf L2.CX0 P w K mg base N qual (defScope st) f cdv A outer s H E).nox (startG N args) S (defBody st) o ∧ Fin S o e S') : FnOk P w K mg base L2.CX0 (k + 1) f fd ps (spOf K C) := by
  refine L2.Fun.ok F Sc (fun vs H Q E h => ?_) (fun cdv A outer s H vs Q E hr h => ?_)
  · obtain ⟨Hi, al, args, S, e, S', hc, w0, r, _⟩ := h
    rw [← paired_len r]; exact hlen _ _ _ _ hc
  · obtain ⟨Hi, al, args, S, e, S', hc, w0, r, kk⟩ := h
    obtain ⟨o, hd, hf⟩ := hb cdv A outer s H E hr args S e S' hc
    exact ⟨_, hd, Hi, al, w0, sl_start r, fin_run rfl hf w0 kk⟩
/-- the same for a def with defaults -/
theorem fn_cD {x qual : Str} {st : Stmt} {dvs : List V} {kws : List (Str × V)} {f : Addr} {fd : FuncData} {N ps : List Str} {k : Nat} {C : Ct} (F : FunD K x qual (defArgs st) (defBody st) (defScope st) dvs kws f fd) (Sc : FnScope N ps (defScope st)) (hlen : ∀ args S e S', C args S e S' → args.length = ps.length)
    (hb : ∀ (cdv : Value) (A : Around) (outer : List Env) (s : Shared) (H : Hp) (E : XK), Room k (A.deeper (envOfC qual (defScope st) s.heap.objs.size f cdv)) → ∀ args S e S', C args S e S' →
      ∃ o, DB (cxOf L2.CX0 P w K mg base N qual (defScope st) f cdv A outer s H E).nox (startG N args) S (defBody st) o ∧ Fin S o e S') : FnOk P w K mg base L2.CX0 (k + 1) f fd ps (spOf K C) := by
  refine F.ok Sc (fun vs H Q E h => ?_) (fun cdv A outer s H vs Q E hr h => ?_)
  · obtain ⟨Hi, al, args, S, e, S', hc, w0, r, _⟩ := h
    rw [← paired_len r]; exact hlen _ _ _ _ hc
  · obtain ⟨Hi, al, args, S, e, S', hc, w0, r, kk⟩ := h
    obtain ⟨o, hd, hf⟩ := hb cdv A outer s H E hr args S e S' hc
    exact ⟨_, hd.nox, Hi, al, w0, sl_start r, fin_run rfl hf w0 kk⟩
/-- a def under its name -/
structure Df (P : Program) (w : World) (K : Fg) (mg : Str → Option Value) (base : Heap) (k : Nat) (nm : Str) (dvs : List V) (C : Ct) : Prop where
  ex : ∃ (f : Addr) (fd : FuncData) (ps : List Str) (ds : List Value), FnOk P w K mg base L2.CX0 k f fd ps (spOf K C) ∧ mg nm = some (.ref f) ∧ PySem.W.keepIn K (.ref f) = true ∧ Binds K fd ps ds ∧ Vals dvs ds
end
section
variable {X : Cx} {G : Gm} {S S1 S2 : List Cl} {a : Expr} {es : List Expr} {p pos : Pos} {args ys : List En} {e : En} {nm : Str} {C : Ct} {k j : Nat}
/-- dys: the defaults' entries, dvs their values -/
theorem de_callD {dvs : List V} (c : Df X.prog X.w X.K X.mg X.base k nm dvs C) (hr : Room j X.A) (hk : k ≤ j) (hd : ∀ Hi al, Paired (EnR X.K Hi al) ys dvs) (hC : C (args ++ ys) S1 e S2) (ha : DA X G S (a :: es) args S1) (hg : Gl X nm := by rfl) (hdb : (nm == ("__debug__" : Str)) = false := by decide)
    (he : starEach (a :: es) X.env = (false, eval a X.env) :: starEach es X.env := by rfl) (hpl : (backTo pos (starEach es X.env)).any (·.1) = false := by rfl) : DE X G S (.Call (.Name nm p) (a :: es) [] pos) e S2 := by
  obtain ⟨f, fd, ps, ds, F, hm, kp, b, d⟩ := c.ex
  exact pe_wk (pe_call F (hr.mono hk) hg hm kp b d pass0 ha hdb he hpl) fun σ H Q ⟨Hi, al, w, s, k⟩ => ⟨Hi, al, w, s, fun Hi1 H1 al1 vs n1 w1 r1 =>
    ⟨Hi1, al1, args ++ ys, S1, e, S2, hC, w1, paired_app r1 (hd _ _), fun Hi2 H2 al2 v n2 w2 r2 => k _ _ _ _ (n1.trans n2) w2 r2⟩⟩
theorem de_call (c : Df X.prog X.w X.K X.mg X.base k nm [] C) (hr : Room j X.A) (hk : k ≤ j) (hC : C args S1 e S2) (ha : DA X G S (a :: es) args S1) (hg : Gl X nm := by rfl) (hdb : (nm == ("__debug__" : Str)) = false := by decide)
    (he : starEach (a :: es) X.env = (false, eval a X.env) :: starEach es X.env := by rfl) (hpl : (backTo pos (starEach es X.env)).any (·.1) = false := by rfl) : DE X G S (.Call (.Name nm p) (a :: es) [] pos) e S2 :=
  de_callD (ys := []) c hr hk (fun _ _ => .nil) (by rw [List.append_nil]; exact hC) ha hg hdb he hpl
end
end AF

set_option Elab.async false
set_option linter.all false
set_option maxRecDepth 100000
set_option maxHeartbeats 4000000
/-! len(set(xs)) of a list of texts -/
namespace AF
open PySem PySem.Spec PyProof.Rows L2
/-- how many different ones stand among the first i -/
def cnD (vals : List Str) : Nat → Nat
  | 0 => 0
  | i + 1 => if (vals.take i).any (· == vals.getD i Str.empty) then cnD vals i else cnD vals i + 1
theorem cnD_le (vals : List Str) : ∀ i, cnD vals i ≤ i
  | 0 => Nat.le_refl _
  | i + 1 => by
    have := cnD_le vals i
    unfold cnD
    split <;> omega
theorem cnD_nodup (vals : List Str) : ∀ i, i ≤ vals.length → (cnD vals i = i ↔ (vals.take i).Nodup)
  | 0, _ => by simp [cnD]
  | i + 1, h => by
    have ih := cnD_nodup vals i (by omega)
    have hle := cnD_le vals i
    have e : vals.take (i + 1) = vals.take i ++ [vals.getD i Str.empty] := by
      have hi : i < vals.length := by omega
      rw [List.take_succ_eq_append_getElem hi]
      simp [hi]
    rw [e, List.nodup_append]
    unfold cnD
    by_cases q : (vals.take i).any (· == vals.getD i Str.empty) = true
    · rw [if_pos q]
      obtain ⟨x, hx, e2⟩ := List.any_eq_true.mp q
      have e3 : x = vals.getD i Str.empty := beq_iff_eq.mp e2
      refine ⟨fun z => by omega, fun z => ?_⟩
      exact absurd e3 (z.2.2 x hx _ (by simp))
    · rw [if_neg q]
      refine ⟨fun z => ⟨ih.mp (by omega), by simp, fun a ha b hb z2 => q ?_⟩, fun z => by have := ih.mpr z.1; omega⟩
      rw [List.mem_singleton] at hb
      subst hb
      exact List.any_eq_true.mpr ⟨a, ha, by rw [z2]; exact beq_self_eq_true _⟩
section
variable {P : Program} {w : World} {A : Around} {E : Value → Shared → Prop} {I : Addr} {fp wr : List Addr} {G : Array GenState → Array GenState → Prop} {n : Nat} {Pv : Nat → Value → Prop} {St : Nat → Shared → Prop} {R : Result → Shared → Prop}
/-- the set's own loop over texts -/
theorem set_fill (W : WalksS P w A.in1 I fp wr G n Pv St) (S : Addr) (out : S ∉ fp) (vals : List Str) (hn : n = vals.length) (room : n + 1 < scanBound) (hv : ∀ i v, Pv i v → ∃ t, v = .str (vals.getD i Str.empty) t) (j : Nat) :
    ∀ (i : Nat) (s : Shared), i + j = n → St i s → s.heap.SetOf (PySem.strKind P w) S (fun k => (vals.take i).any (· == k)) (cnD vals i) →
      (∀ s', Moved (S :: wr) G s s' → s'.heap.SetOf (PySem.strKind P w) S (fun k => (vals.take n).any (· == k)) (cnD vals n) → R (.ok (.ret .none)) s') →
      codeAny (model P w) A (.builtin "set.update.loop" ⟨[.ref S, .ref I], []⟩) R s := by
  have outW : S ∉ wr := fun z => out (W.sub _ z)
  have inW : ∀ b ∈ wr, b ∈ S :: wr := fun b z => List.mem_cons_of_mem _ z
  induction j with
  | zero =>
    intro i s e st hS fin
    obtain rfl : i = n := e
    refine codeAny_builtin PyProof.Rows.F.entry_set_update_loop (by
      rw [Around.under_plainId PyProof.Rows.F.plain_set_update_loop _]
      refine wpAny_bind (m := pyNext (.ref I)) (W.done s _ _ st fun s' mv => wpAny_pure (fin s' (mv.mono inW) ?_))
      obtain ⟨o, es, ep, t, ho, r⟩ := hS
      exact ⟨o, es, ep, t, mv.heap S _ outW ho, r⟩)
  | succ j ih =>
    intro i s e st hS fin
    have lt : i < n := by omega
    refine codeAny_builtin PyProof.Rows.F.entry_set_update_loop (by
      rw [Around.under_plainId PyProof.Rows.F.plain_set_update_loop _]
      refine wpAny_bind (m := pyNext (.ref I)) (W.item i s _ _ lt st fun v s1 pv st1 mv => ?_)
      obtain ⟨t, rfl⟩ := hv i v pv
      have hS1 : s1.heap.SetOf (PySem.strKind P w) S (fun k => (vals.take i).any (· == k)) (cnD vals i) := by
        obtain ⟨o, es, ep, tb, ho, r⟩ := hS
        exact ⟨o, es, ep, tb, mv.heap S _ outW ho, r⟩
      refine wpAny_bind (m := holding [Value.str (vals.getD i Str.empty) t] (setAdd S (.str (vals.getD i Str.empty) t))) (wpAny_holding ?_)
      refine wpAny_holding (wpAny_bind ((PySem.strKind P w).pyHash (k := vals.getD i Str.empty) (strKind_is _ _ _ _) ?_))
      refine wpAny_setAddHashed_of (knd := PySem.strKind P w) (s := { s1 with toks := s1.toks + 1 }) (strKind_is _ _ _ _) rfl hS1 (by have := cnD_le vals i; omega) fun h2 sb hS2 => ?_
      have tk : vals.take (i + 1) = vals.take i ++ [vals.getD i Str.empty] := by
        have hi : i < vals.length := by omega
        rw [List.take_succ_eq_append_getElem hi]
        simp [hi]
      have hS3 : h2.SetOf (PySem.strKind P w) S (fun k => (vals.take (i + 1)).any (· == k)) (cnD vals (i + 1)) := by
        have e1 : (fun k => (vals.take i).any (· == k) || decide (k = vals.getD i Str.empty)) = fun k => (vals.take (i + 1)).any (· == k) := by
          funext k
          rw [tk, List.any_append]
          congr 1
          by_cases q : k = vals.getD i Str.empty
          · rw [decide_eq_true q, q]; simp
          · rw [decide_eq_false q]
            have : (vals.getD i Str.empty == k) = false := beq_eq_false_iff_ne.mpr (Ne.symm q)
            simp only [List.any_cons, List.any_nil, this, Bool.or_false]
        rw [e1] at hS2
        exact hS2
      refine wpAny_pure ⟨plainId_quiet PyProof.Rows.F.plain_set_update_loop _, ih (i + 1) _ (by omega) (W.frame _ s1 _ _ st1 (Nat.le_succ _) fun b hb o eo => ?_) hS3 fun s3 mv3 hS4 => fin s3 (Moved.trans W.gtrans ((mv.mono inW).then_heap (Nat.le_succ _) fun b o hb eo => ?_) mv3) hS4⟩
      · rw [sb.2 b (fun z : b = S => out (z ▸ hb))]; exact eo
      · rw [sb.2 b (fun z : b = S => hb (by rw [z]; exact List.mem_cons_self))]; exact eo)
end
section
variable {prog : Program} {w : World} {A : Around} {E : Value → Shared → Prop} {s : Shared}
/-- set(xs), xs a list of texts: a new set stands behind all that stood -/
theorem set_call {l : Addr} {items : Array Value} {xs : List Str} {Q : Value → Shared → Prop} (calm : A.handled = none) (hl : s.heap.IsList l items) (hv : ∀ (i : Nat) (v : Value), items[i]? = some v → ∃ t, v = .str (xs.getD i Str.empty) t)
    (hn : items.size = xs.length) (room : items.size + 1 < scanBound) (h : ∀ (h' : Heap) (tk : Nat), h'.SetOf (PySem.strKind prog w) s.heap.objs.size (fun k => (xs.take items.size).any (· == k)) (cnD xs items.size) →
      (∀ b o, b < s.heap.objs.size → s.heap.get? b = some o → h'.get? b = some o) → Q (.ref s.heap.objs.size) { s with heap := h', toks := tk }) : wpAny (model prog w) A (call (.type "set") [.ref l]) Q E s := by
  obtain ⟨c, tl, hmro⟩ := PySem.F.called_set.mro
  have f1 := PySem.F.called_set.made
  have f2 := PySem.F.called_set.sub
  refine wpAny_call (codeAny_of_tree ?_)
  show wpAny _ _ (callAny (.type "set") _) _ _ _
  exact wpAny_pure (And.intro (Code.quiet_builtin _ (by decide +kernel)) (codeAny_builtin PySem.F.entry_type_call (by
    rw [Around.under_plain (weight_type_call_type "set" [.ref l] []) rfl]
    have f3 := PySem.F.called_set.notType
    have f4 := PySem.F.called_set.canCreate
    have f5 := PySem.F.typeCall_set_1 (.ref l)
    repeat (any_goals (first | assumption | wp_step))
    refine codeAny_mono (code_set_new_1 (.ref l) (E := E) (Q₁ := fun ob s1 => ∃ led : Bool, ob = .ref s.heap.objs.size ∧ s1 = { s with heap := s.heap.push { cls := .type "set", dict := none, data := .set #[] 0 (.fresh 0 0 led) } }) fun led => ⟨led, rfl, rfl⟩) fun r s1 hr => ?_
    cases r with
    | error e => exact hr
    | ok fl =>
      cases fl with
      | ret ob =>
        obtain ⟨led, rfl, rfl⟩ := hr
        have g1 : (s.heap.push { cls := .type "set", dict := none, data := .set #[] 0 (.fresh 0 0 led) }).get? s.heap.objs.size = some { cls := .type "set", dict := none, data := .set #[] 0 (.fresh 0 0 led) } := Heap.get?_push_size _ rfl
        have g2 : Shared.TypeIs { s with heap := s.heap.push { cls := .type "set", dict := none, data := .set #[] 0 (.fresh 0 0 led) } } (.ref s.heap.objs.size) "set" := ⟨_, g1, rfl⟩
        have g3 := PySem.F.called_set.init.lookup
        have g4 := PySem.F.called_set.init.bind (.ref s.heap.objs.size)
        repeat (any_goals (first | assumption | wp_step))
        refine codeAny_mono (codeAny_call_builtin (R := wants (fun r s2 => r = .none ∧ ∃ h' tk, s2 = { s with heap := h', toks := tk } ∧ h'.SetOf (PySem.strKind prog w) s.heap.objs.size (fun k => (xs.take items.size).any (· == k)) (cnD xs items.size) ∧
            (∀ b o, b < s.heap.objs.size → s.heap.get? b = some o → h'.get? b = some o)) E) PySem.F.called_set.init.plain PySem.F.entry_set_init (check_set_init_1 g2 ?_)) fun r2 s2 hr2 => ?_
        · obtain ⟨⟨oc, od, oda, osl⟩, ho, e1, nl, e2⟩ := id hl
          simp only at e1 e2
          subst e1; subst e2
          have ho2 : (s.heap.push { cls := .type "set", dict := none, data := .set #[] 0 (.fresh 0 0 led) }).get? l = some { cls := .type "list", dict := od, data := .seq items nl, slots := osl } := Heap.get?_push_of_some _ ho
          have k1 := PySem.F.sub_list_set
          have k2 := PySem.F.sub_list_frozenset
          have k3 : (Value.type "list" == Value.type "dict") = false := by decide
          have hl2 : (s.heap.push { cls := .type "set", dict := none, data := .set #[] 0 (.fresh 0 0 led) }).IsList l items := ⟨_, ho2, rfl, nl, rfl⟩
          unfold Builtin.«set.__init__» noKeywords Builtin.Frozenset.updateFrom
          generalize hPI : pyIter = PI
          wp_walk
          subst hPI
          refine wpAny_pyIter_list hl2 (wpAny_bind (wpAny_runValue ?_))
          have lt := Heap.lt_size ho
          have hh : A.in1.in1.in1.handled = none := by simp [calm]
          have ne1 : l ≠ (s.heap.push { cls := .type "set", dict := none, data := .set #[] 0 (.fresh 0 0 led) }).objs.size := by
            rw [Heap.size_push]; exact Nat.ne_of_lt (Nat.lt_succ_of_lt lt)
          have out : s.heap.objs.size ∉ [(s.heap.push { cls := .type "set", dict := none, data := .set #[] 0 (.fresh 0 0 led) }).objs.size, l] := by
            rw [Heap.size_push]
            intro z
            rcases List.mem_cons.mp z with z | z
            · exact Nat.ne_of_lt (Nat.lt_succ_self _) z
            · exact Nat.ne_of_gt lt (List.mem_singleton.mp z)
          refine set_fill ((Walks.list hh _ l ne1 items).toS) s.heap.objs.size out xs hn room hv items.size 0 _ (Nat.zero_add _) ⟨⟨_, Heap.get?_push_size _ rfl, rfl, rfl⟩, hl2.push _⟩ ?_ ?_
          · have g5 : ((s.heap.push { cls := .type "set", dict := none, data := .set #[] 0 (.fresh 0 0 led) }).push { cls := .type "list_iterator", data := .fields #[.ref l, .int 0 0] }).get? s.heap.objs.size = some { cls := .type "set", dict := none, data := .set #[] 0 (.fresh 0 0 led) } := Heap.get?_push_of_some _ g1
            exact (PyProof.Rows.setObjOf_fresh (knd := PySem.strKind prog w) led).setOf g5 (by unfold scanBound; omega)
          · rintro ⟨h', g', d', tk', os'⟩ mv hS
            obtain rfl : g' = s.gens := mv.gens
            obtain rfl : d' = s.drawn := mv.drawn
            obtain rfl : os' = s.os := mv.os
            refine wpAny_pure (wpAny_pure ⟨rfl, h', tk', rfl, hS, fun b o hb e => ?_⟩)
            refine mv.heap b o (fun z => ?_) (Heap.get?_push_of_some _ (Heap.get?_push_of_some _ e))
            rcases List.mem_cons.mp z with z | z
            · exact Nat.ne_of_lt hb z
            · have z' := List.mem_singleton.mp z
              rw [Heap.size_push] at z'
              exact Nat.ne_of_lt (Nat.lt_succ_of_lt hb) z'
        · cases r2 with
          | error e => exact hr2
          | ok f =>
            cases f with
            | ret r =>
              obtain ⟨rfl, h', tk, rfl, hS, kp⟩ := hr2
              repeat (any_goals (first | assumption | wp_step))
              exact h _ _ hS kp
            | _ => exact hr2.elim
      | _ => exact hr.elim)))
end
section
variable {X : Cx}
def rLS (K : Fg) (ta : TE) : TE := fun σ H Q => ta σ H fun x H1 => ∃ (l : Addr) (xs : List Str), x = .ref l ∧ SqL K H1 l (xs.map V.str) ∧ xs.length ≤ 1000 ∧ Q (.int (cnD xs xs.length : Nat)) H1
theorem str_vals : ∀ {xs : List Str} {us : List Value}, Vals (xs.map V.str) us → ∀ (i : Nat) (v : Value), us[i]? = some v → ∃ t, v = .str (xs.getD i Str.empty) t
  | [], _, .nil, i, v, h => by simp at h
  | x :: xs, _, .cons r t, 0, v, h => by
    obtain ⟨k, rfl⟩ := r
    have e : Value.str x k = v := by simpa using h
    exact ⟨k, by rw [← e]; rfl⟩
  | x :: xs, _, .cons r t, i + 1, v, h => by
    obtain ⟨k, e⟩ := str_vals t i v (by simpa using h)
    exact ⟨k, by rw [e]; simp⟩
theorem pe_ls {a : Expr} {ta : TE} {p p2 q pos : Pos} (hc : X.calm = true) (hg : Gl X "len") (hm : X.mg "len" = none) (hg2 : Gl X "set") (hm2 : X.mg "set" = none) (ha : PE X a ta)
    (na : starEach [a] X.env = (false, eval a X.env) :: starEach [] X.env := by rfl) : PE X (.Call (.Name "len" p) [.Call (.Name "set" p2) [a] [] q] [] pos) (rLS X.K ta) := by
  refine ⟨fun pins s σ H Q I h => Call_ (ld_blt I hg hm PySem.boot_len (PyProof.Rows.callWith_builtin1 (PyProof.Rows.args_cons (Call_ (ld_blt I hg2 hm2 PyProof.Rows.boot_set (PyProof.Rows.callWith_type1 (PyProof.Rows.args_cons
    (thn (ha.run pins s σ H _ I h) fun v s1 ⟨x, H1, I1, r1, q1⟩ => PyProof.Rows.args_nil ?_) na) na rfl))) rfl) rfl rfl))⟩
  obtain ⟨l, xs, rfl, hq, h1, q1⟩ := q1
  cases r1
  obtain ⟨its, r, pl, hz⟩ := I1.list hq
  have e1 : its.toArray.size = xs.length := by rw [List.size_toArray, ← r.length, List.length_map]
  refine set_call (I1.ok.hd hc) pl.isList (fun i v hv => str_vals r i v (by simpa using hv)) e1 (by unfold scanBound; omega) fun h' tk hS kp => PyProof.Rows.args_nil ?_
  rw [e1] at hS
  obtain ⟨o, es, ep, t, ho, hex, hd, _, _, _, hf, hn⟩ := hS
  have I2 : Inv X pins σ H1 { s1 with heap := h', toks := tk } := I1.kept fun b o e => kp b o (Heap.lt_size e) e
  have := cnD_le xs xs.length
  exact call_len_set ho hex hd hf (by rw [hn]; omega) ⟨.int (cnD xs xs.length : Nat), H1, I2.tok _, ⟨_, by rw [hn]⟩, q1⟩
theorem de_lenset {G : Gm} {S S1 : List Cl} {a : Expr} {p p2 q pos : Pos} {x : En} {xs : List Str} (hc : X.calm = true) (hm : X.mg "len" = none) (hm2 : X.mg "set" = none) (h : IsL S1 x (xs.map fun y => En.d (.str y))) (hl : xs.length ≤ 1000) (ha : DE X G S a x S1) (hg : Gl X "len" := by rfl) (hg2 : Gl X "set" := by rfl)
    (na : starEach [a] X.env = (false, eval a X.env) :: starEach [] X.env := by rfl) : DE X G S (.Call (.Name "len" p) [.Call (.Name "set" p2) [a] [] q] [] pos) (.d (.int (cnD xs xs.length : Nat))) S1 :=
  pe_wk (pe_ls hc hg hm hg2 hm2 ha na) fun σ H Q ⟨Hi, al, w, s, k⟩ => ⟨Hi, al, w, s, fun Hi1 H1 al1 v n1 w1 r1 => by
    obtain ⟨ad, us, rfl, hq, hp⟩ := h.val w1 r1
    have e := vs_strs hp
    subst e
    exact ⟨ad, xs, rfl, hq, hl, k _ _ _ _ n1 w1 (.int _)⟩⟩
end
end AF

set_option Elab.async false
set_option linter.all false
set_option maxRecDepth 100000
set_option maxHeartbeats 4000000
/-! loops by recursion -/
namespace AF
open PySem PySem.Spec PyProof.Rows L2
section
variable {X : Cx} {G G1 G2 : Gm} {S S1 S2 T : List Cl} {c iter tg : Expr} {pos : Pos} {body : List Stmt} {o o' : Out} {xs : List En} {e : En}
/-- turns of a while -/
inductive Wh (X : Cx) (c : Expr) (body : List Stmt) : Nat → Gm → List Cl → Out → Prop
  | stop {G : Gm} {S T : List Cl} (h : DT X G S c false T) : Wh X c body 0 G S (.nx G T)
  | go {n : Nat} {G G1 : Gm} {S T S1 : List Cl} {o o' : Out} (h : DT X G S c true T) (hb : DB X G T body o') (ht : Tn o' G1 S1) (hr : Wh X c body n G1 S1 o) : Wh X c body (n + 1) G S o
  | brk {G G1 : Gm} {S T S1 : List Cl} (h : DT X G S c true T) (hb : DB X G T body (.bk G1 S1)) : Wh X c body 0 G S (.nx G1 S1)
  | rt {G : Gm} {S T S1 : List Cl} {e : En} (h : DT X G S c true T) (hb : DB X G T body (.rt e S1)) : Wh X c body 0 G S (.rt e S1)
def tAllS (X : Cx) (body : List Stmt) : TS := fun D σ H => ∃ q : { q : Gm × List Cl × Out // DB X q.1 q.2.1 body q.2.2 }, rS X.K q.1.1 q.1.2.1 q.1.2.2 D σ H
def tAllT (X : Cx) (c : Expr) : TT := fun σ H Q => ∃ q : { q : Gm × List Cl × Bool × List Cl // DT X q.1 q.2.1 c q.2.2.1 q.2.2.2 }, rT X.K q.1.1 q.1.2.1 q.1.2.2.1 q.1.2.2.2 σ H Q
theorem ds_wh {n : Nat} (h : Wh X c body n G S o) (hp : PassesOwn (model X.prog X.w) X.A X.env X.xe) : DS X G S (.While c body [] pos) o := by
  refine ps_wk (ps_while (tc := tAllT X c) (tb := tAllS X body) hp (pt_all fun q => q.2) (pss_all fun q => q.2)) fun D σ H ⟨Hi, al, w, s, k⟩ => ?_
  refine ⟨fun m σ' H' => ∃ G' S', Wh X c body m G' S' o ∧ ∃ Hi' al', Nx Hi H al Hi' H' al' ∧ Wd X.K Hi' H' al' S' ∧ Sl X.K Hi' al' G' σ', ⟨n, G, S, h, Hi, al, Nx.refl w, w, s⟩, ?_⟩
  rintro m σ2 H2 ⟨G2, S2, h2, Hi2, al2, n2, w2, s2⟩
  have fin : ∀ {Hi3 H3 : Hp} {al3 : List Addr}, Nx Hi2 H2 al2 Hi3 H3 al3 → OutR X.K D Hi3 H3 al3 o := fun n3 => k _ _ _ (n2.trans n3)
  cases h2 with
  | stop ht => exact ⟨⟨(_, _, _, _), ht⟩, Hi2, al2, w2, s2, fun Hi3 H3 al3 n3 w3 => iteF (fin n3 w3 σ2 (s2.mono n3))⟩
  | @go m' _ G1 _ T S1 _ o' ht hb htn hr =>
    refine ⟨⟨(_, _, _, _), ht⟩, Hi2, al2, w2, s2, fun Hi3 H3 al3 n3 w3 => iteT ⟨fun σ' H' => ∃ G' S', Wh X c body m' G' S' o ∧ ∃ Hi' al', Nx Hi H al Hi' H' al' ∧ Wd X.K Hi' H' al' S' ∧ Sl X.K Hi' al' G' σ', fun σ' H' q => ⟨m', Nat.lt_succ_self _, q⟩, ⟨(_, _, _), hb⟩, Hi3, al3, w3, s2.mono n3, fun Hi4 H4 al4 n4 => ?_⟩⟩
    obtain ⟨G9, hle, sp | sp⟩ := htn
    · subst sp
      exact fun w4 σ4 s4 => ⟨G1, S1, hr, Hi4, al4, (n2.trans n3).trans n4, w4, s4.le hle⟩
    · subst sp
      exact fun w4 σ4 s4 => ⟨G1, S1, hr, Hi4, al4, (n2.trans n3).trans n4, w4, s4.le hle⟩
  | brk ht hb =>
    exact ⟨⟨(_, _, _, _), ht⟩, Hi2, al2, w2, s2, fun Hi3 H3 al3 n3 w3 => iteT ⟨fun _ _ => False, fun _ _ z => z.elim, ⟨(_, _, _), hb⟩, Hi3, al3, w3, s2.mono n3, fun Hi4 H4 al4 n4 => fin (n3.trans n4)⟩⟩
  | rt ht hb =>
    exact ⟨⟨(_, _, _, _), ht⟩, Hi2, al2, w2, s2, fun Hi3 H3 al3 n3 w3 => iteT ⟨fun _ _ => False, fun _ _ z => z.elim, ⟨(_, _, _), hb⟩, Hi3, al3, w3, s2.mono n3, fun Hi4 H4 al4 n4 => fin (n3.trans n4)⟩⟩
/-- turns of a for; f: what the target's taking makes of the slots -/
inductive Fo (X : Cx) (f : En → Gm → Gm) (body : List Stmt) : List En → Gm → List Cl → Out → Prop
  | nil {G : Gm} {S : List Cl} : Fo X f body [] G S (.nx G S)
  | cons {e : En} {xs : List En} {G G1 : Gm} {S S1 : List Cl} {o o' : Out} (hb : DB X (f e G) S body o') (ht : Tn o' G1 S1) (hr : Fo X f body xs G1 S1 o) : Fo X f body (e :: xs) G S o
  | brk {e : En} {xs : List En} {G G1 : Gm} {S S1 : List Cl} (hb : DB X (f e G) S body (.bk G1 S1)) : Fo X f body (e :: xs) G S (.nx G1 S1)
  | rt {e r : En} {xs : List En} {G : Gm} {S S1 : List Cl} (hb : DB X (f e G) S body (.rt r S1)) : Fo X f body (e :: xs) G S (.rt r S1)
theorem Fo.le {f : En → Gm → Gm} (h : Fo X f body xs G S o) : True := trivial
theorem ds_fo {g : TG} {ix : List Nat} {f : En → Gm → Gm} (h : Fo X f body xs G1 S1 o) (hp : PassesOwn (model X.prog X.w) X.A X.env X.xe) (hc : X.calm = true) (hi : DI X G S tg iter xs S1) (hl : Le G1 G) (hg : PG X tg g) (ht : ∀ e ∈ xs, TgR X.K g ix e (f e))
    (hs : ∀ x, foldedSetIterable iter X.env x = pure x := by intro _; rfl) : DS X G S (.For tg iter body [] pos) o := by
  refine ps_wk (ps_for (tb := tAllS X body) hp hc hi hg (pss_all fun q => q.2) hs) fun D σ H ⟨Hi, al, w, s, k⟩ => ⟨Hi, al, w, s, fun Hi1 H1 al1 J n1 w1 it => ?_⟩
  refine ⟨fun i m σ' H' => m = xs.length - i ∧ i ≤ xs.length ∧ ∃ G' S', Fo X f body (xs.drop i) G' S' o ∧ ∃ Hi' al', Nx Hi1 H1 al1 Hi' H' al' ∧ Wd X.K Hi' H' al' S' ∧ Sl X.K Hi' al' G' σ', ⟨xs.length, by simp, Nat.zero_le _, G1, S1, by rw [List.drop_zero]; exact h, Hi1, al1, Nx.refl w1, w1, (s.mono n1).le hl⟩, ?_⟩
  rintro i m σ2 H2 ⟨rfl, hile, G2, S2, h2, Hi2, al2, n2, w2, s2⟩
  have fin : ∀ {Hi3 H3 : Hp} {al3 : List Addr}, Nx Hi2 H2 al2 Hi3 H3 al3 → OutR X.K D Hi3 H3 al3 o := fun n3 => k _ _ _ ((n1.trans n2).trans n3)
  by_cases hlt : i < xs.length
  · have hd : xs.drop i = xs[i] :: xs.drop (i + 1) := List.drop_eq_getElem_cons hlt
    rw [hd] at h2
    refine .inr ⟨it.go i Hi2 H2 al2 hlt n2, fun σ' H' => ∃ G' S', Fo X f body (xs.drop (i + 1)) G' S' o ∧ ∃ Hi' al', Nx Hi1 H1 al1 Hi' H' al' ∧ Wd X.K Hi' H' al' S' ∧ Sl X.K Hi' al' G' σ', fun σ' H' q => ⟨xs.length - (i + 1), by omega, rfl, hlt, q⟩, fun v H3 y => ?_⟩
    obtain ⟨Hi3, e, n3, w3, he, r3⟩ := it.yld i Hi2 H2 al2 S2 v H3 hlt n2 w2 y
    have ee : e = xs[i] := by
      rw [List.getElem?_eq_getElem hlt] at he
      exact (Option.some.inj he).symm
    subst ee
    refine ht _ (List.getElem_mem hlt) Hi3 H3 al2 S2 v σ2 G2 _ w3 r3 (s2.mono n3) fun σ4 s4 _ => ?_
    cases h2 with
    | @cons _ _ _ G3 _ S3 _ o' hb htn hr =>
      refine ⟨⟨(_, _, _), hb⟩, Hi3, al2, w3, s4, fun Hi5 H5 al5 n5 => ?_⟩
      obtain ⟨G9, hle, sp | sp⟩ := htn
      · subst sp
        exact fun w5 σ5 s5 => ⟨G3, S3, hr, Hi5, al5, (n2.trans n3).trans n5, w5, s5.le hle⟩
      · subst sp
        exact fun w5 σ5 s5 => ⟨G3, S3, hr, Hi5, al5, (n2.trans n3).trans n5, w5, s5.le hle⟩
    | brk hb => exact ⟨⟨(_, _, _), hb⟩, Hi3, al2, w3, s4, fun Hi5 H5 al5 n5 => fin (n3.trans n5)⟩
    | rt hb => exact ⟨⟨(_, _, _), hb⟩, Hi3, al2, w3, s4, fun Hi5 H5 al5 n5 => fin (n3.trans n5)⟩
  · have e : i = xs.length := by omega
    subst e
    rw [List.drop_length] at h2
    cases h2 with
    | nil => exact .inl ⟨it.stop Hi2 H2 al2 n2, fin (Nx.refl w2) w2 σ2 s2⟩
/-- a list's cell in a slot becomes data -/
theorem db_frz {sts : List Stmt} {j i : Nat} {ds : List PyData} (hg : G[j]? = some (some (.p i))) (hc : S[i]? = some (.lst (ds.map .d))) (h : DB X (G.set j (some (.d (.list ds)))) (S.set i .gone) sts o) : DB X G S sts o :=
  pss_wk h fun D σ H ⟨Hi, al, w, s, k⟩ => by
    obtain ⟨v, h1, ad, h2, rfl⟩ := s.get j _ hg
    obtain ⟨Hi2, w2, n2, d2⟩ := w.freeze hc h2
    refine ⟨Hi2, al, w2, ?_, fun Hi3 H3 al3 n3 => k _ _ _ (n2.trans n3)⟩
    have s2 := s.mono n2
    have s3 := s2.set j (e := .d (.list ds)) (v := .ref ad) d2
    have e : σ.set j (some (V.ref ad)) = σ := by
      apply List.ext_getElem?
      intro m
      by_cases hm : j = m
      · subst hm
        rw [List.getElem?_set_self (List.getElem?_eq_some_iff.mp h1).1, h1]
      · rw [List.getElem?_set_ne hm]
    rw [e] at s3
    exact s3
end
end AF

set_option Elab.async false
set_option linter.all false
set_option maxRecDepth 100000
set_option maxHeartbeats 4000000
/-! sorted(ts), ts a tuple of data: a new list -/
namespace AF
open PySem PySem.Spec PyProof.Rows L2 PySem.W PySem.Calls
section
variable {prog : Program} {w : World} {A : Around} {E : Value → Shared → Prop} {s : Shared}
/-- the items of a tuple, as sorted takes them -/
theorem tup_collect {l : Addr} {vs : List Value} {Q : List Value → Shared → Prop} (hl : s.heap.IsTuple l vs.toArray) (hz : vs.length ≤ sizeLine)
    (h : Q vs { s with heap := (s.heap.push (seqObj "list" #[] 0)).update s.heap.objs.size (Obj.mapSeq (· ++ vs.toArray)) }) : wpAny (model prog w) A (collect (.ref l)) Q E s := by
  obtain ⟨ob, e1, e2, m, e3⟩ := id hl
  have new : (s.heap.push (seqObj "list" #[] 0)).get? s.heap.objs.size = some (seqObj "list" #[] 0) := Heap.get?_push_size _ rfl
  unfold collect
  refine wpAny_bind (wpAny_runValue (codeAny_builtin entry_proto_collect' ?_))
  show wpAny _ _ (do again (.builtin "list.__iadd__" ⟨[← newList [], .ref l], []⟩)) _ _ s
  refine wpAny_bind (wpAny_newList (wpAny_pure ⟨Code.quiet_builtin _ (by decide +kernel), codeAny_builtin entry_list_iadd' ?_⟩))
  show wpAny _ _ (Builtin.List.listExtendWith (.ref s.heap.objs.size) (.ref l) (.ref s.heap.objs.size)) _ _ { s with heap := s.heap.push (seqObj "list" #[] 0) }
  have keep : (s.heap.push (seqObj "list" #[] 0)).get? l = some ob := Heap.get?_push_of_some _ e1
  unfold Builtin.List.listExtendWith
  refine wpAny_bind (wpAny_typeOf (T := "tuple") ⟨ob, keep, e2⟩ ?_)
  have et : (Value.type "tuple" == Value.type "tuple") = true := by rfl
  rw [if_pos (by rw [et]; simp)]
  refine wpAny_bind (listItems_at keep e3 (wpAny_bind (listItems_at (xs := #[]) (n := 0) new rfl ?_)))
  rw [if_neg (by simp)]
  refine wpAny_bind (listUpdate_at (xs := #[]) (n := 0) new rfl (wpAny_pure ?_) (Nat.zero_le _) (by
    show (#[] ++ vs.toArray).size ≤ sizeLine + 1
    simp only [Array.size_append, List.size_toArray, List.length_nil]; omega))
  show wpAny (model prog w) A (do
      let o ← load s.heap.objs.size
      match o.data with
      | .seq xs _ => pure xs.toList
      | _ => unsupported "internal:collect") Q E { s with heap := (s.heap.push (seqObj "list" #[] 0)).update s.heap.objs.size (Obj.mapSeq (· ++ vs.toArray)) }
  refine wpAny_bind (wpAny_load (get?_update_seq new _) ?_)
  have ev : ((#[] : Array Value) ++ vs.toArray).toList = vs := by simp
  show wpAny _ _ (pure ((#[] : Array Value) ++ vs.toArray).toList) Q E _
  rw [ev]
  exact wpAny_pure h
/-- sorted(ts) -/
theorem tup_sorted {κ : KeyKind} {l : Addr} {vs : List Value} {Q : Value → Shared → Prop} (hl : s.heap.IsTuple l vs.toArray) (hz : vs.length ≤ sizeLine)
    (T : SortsAt prog w A.in1.in1 { s with heap := sortingHeap (copyHeap s.heap vs) (s.heap.objs.size + 1) vs } κ vs)
    (h : Q (.ref (s.heap.objs.size + 1)) { s with heap := sortedAll s.heap vs (sortVals κ false vs vs).toArray }) : wpAny (model prog w) A (call (.builtin "sorted") [.ref l]) Q E s := by
  refine PySem.Calls.call_function_entry kind_sorted plain_sorted entry_sorted (args_sorted1 _) ?_
  unfold Builtin.«sorted»
  refine wpAny_bind (m := checkCount "sorted" 1 1 _) (wpAny_pure (wpAny_bind (tup_collect hl hz (wpAny_bind (wpAny_newList ?_ hz)))))
  have sz : ((s.heap.push (seqObj "list" #[] 0)).update s.heap.objs.size (Obj.mapSeq (· ++ vs.toArray))).objs.size = s.heap.objs.size + 1 := by
    rw [Heap.size_update, size_push']
  show wpAny _ _ _ _ _ { s with heap := copyHeap s.heap vs }
  rw [sz]
  refine wpAny_bind (wpAny_holding (wpAny_call_entry slot_list_sort ⟨_, copyHeap_at s.heap vs, rfl⟩ entry_list_sort ?_ (args_list_sort _)))
  exact list_sort_vals (s := { s with heap := copyHeap s.heap vs }) (copyHeap_at s.heap vs) T hz ⟨_, rfl, wpAny_pure ⟨_, rfl, h⟩⟩

end
section
variable {X : Cx}
theorem each_vals {Pd : V → PyData → Prop} : ∀ {out : List Value} {ds : List PyData}, EachIs (fun u d => ∃ x : V, RelV x u ∧ Pd x d) out ds → ∃ xs : List V, Vals xs out ∧ Paired Pd xs ds
  | _, _, .nil => ⟨[], .nil, .nil⟩
  | _, _, .cons ⟨x, r, h⟩ t => by
    obtain ⟨xs, a, b⟩ := each_vals t
    exact ⟨x :: xs, .cons r a, .cons h b⟩
theorem vals_each {Pd : V → PyData → Prop} : ∀ {ys : List V} {us : List Value} {ds : List PyData}, Vals ys us → Paired Pd ys ds → EachIs (fun u d => ∃ x : V, RelV x u ∧ Pd x d) us ds
  | _, _, _, .nil, .nil => .nil
  | _, _, _, .cons r a, .cons h b => .cons ⟨_, r, h⟩ (vals_each a b)
theorem dps_pd {K : Fg} {H : Hp} : ∀ {ys : List V} {ds : List PyData}, DpAll K H ys ds → Paired (Dp K H) ys ds
  | _, _, .nil => .nil
  | _, _, .cons a t => .cons a (dps_pd t)
theorem pd_dps {K : Fg} {H : Hp} : ∀ {ys : List V} {ds : List PyData}, Paired (Dp K H) ys ds → DpAll K H ys ds
  | _, _, .nil => .nil
  | _, _, .cons a t => .cons a (pd_dps t)
def rSortT (K : Fg) : List V → Hp → VK → Prop := fun vs H Q => ∃ (a : Addr) (ys : List V) (ds : List PyData) (Pd : V → PyData → Prop), vs = [V.ref a] ∧ SqT K H a ys ∧ Paired Pd ys ds ∧ (∀ v d, Pd v d → Dp K H v d) ∧ AllAlike ds ∧ Sortable ds ∧ (∀ d ∈ ds, d.depth ≤ 60) ∧
  ∀ l out, H l = none → Paired Pd out (ds.mergeSort (dataLe false id)) → Q (.ref l) (upd H l (.lst out))
theorem call_sortT (hu : X.A.units + 64 < cLine) : CallR X (.builtin "sorted") (rSortT X.K) := by
  intro pins s σ H vs us Q I r h
  obtain ⟨a, ys, ds, Pd, rfl, hs, hd, hpd, hal, hk, hdep, q⟩ := h
  obtain ⟨u, rfl, ru⟩ := vals1 r
  cases ru
  obtain ⟨its, rv, pl, hz⟩ := I.tuple hs
  have hz' : its.length ≤ sizeLine := by rw [← rv.length]; exact hz
  have er : EachIs (fun u d => ∃ as, Reads s.heap u d as) its ds := (vals_each rv hd).mono fun u d ⟨x, r1, r2⟩ => Dp.reads I d x u (hpd _ _ r2) r1
  have er' : EachIs (fun u d => ∃ as, Reads (sortingHeap (copyHeap s.heap its) (s.heap.objs.size + 1) its) u d as) its ds := er.mono fun _ _ ⟨as, r⟩ => ⟨as, Reads.keeps (fun _ _ => sorting_copy_old) r⟩
  have em : ds.map (id : PyData → PyData) = ds := List.map_id ds
  have hal' : AllAlike (ds.map id) := by rw [em]; exact hal
  refine tup_sorted (κ := dataKind (sortingHeap (copyHeap s.heap its) (s.heap.objs.size + 1) its) (ds.map id)) pl hz' ?_ ?_
  · rw [em]
    refine SortsAt.data (s := { s with heap := sortingHeap (copyHeap s.heap its) (s.heap.objs.size + 1) its }) er' hal hk fun d hm => ?_
    have := hdep d hm
    show X.A.units + 1 + 1 + d.depth < cLine
    omega
  · have eo := sortVals_data (h' := sortingHeap (copyHeap s.heap its) (s.heap.objs.size + 1) its) (enc := id) false (vals_each rv hd) er' hal'
    obtain ⟨xs, v1, v2⟩ := each_vals eo
    obtain ⟨c, hc⟩ := sortedAll_at s.heap its (sortVals (dataKind (sortingHeap (copyHeap s.heap its) (s.heap.objs.size + 1) its) (ds.map id)) false its its).toArray
    refine ⟨.ref (s.heap.objs.size + 1), _, I.laid (t' := s.toks) (fun b o e => sortedAll_old e) (Nat.le_succ _) (show ObjOk X.prog X.w _ _ _ (.lst xs) from ⟨?_, _, c, v1, hc⟩), rfl, q _ xs (I.hok.fresh (Nat.le_succ _)) v2⟩
    rw [v1.length, sortVals_length false rfl]
    exact hz'
end
end AF

set_option Elab.async false
set_option linter.all false
set_option maxRecDepth 100000
set_option maxHeartbeats 4000000
/-! dicts whose keys are nested tuples of texts and ints -/
namespace AF
open PySem PySem.Spec PyProof.Rows L2
abbrev Rw := NestedKey × Addr × V
abbrev RwR (r : Rw) (u : NestedKey × Addr × Value) : Prop := r.1 = u.1 ∧ r.2.1 = u.2.1 ∧ RelV r.2.2 u.2.2
def KDok (P : Program) (w : World) (a : Addr) (rows : List Rw) (h : Heap) : Prop := rows.length ≤ sizeLine ∧ (a == sysModules) = false ∧ ∃ us : List (NestedKey × Addr × Value), Paired RwR rows us ∧
  ∃ o es ep, h.get? a = some o ∧ o.ExactDict ∧ o.data = .dict es ep ∧ es.toList = us.map (entryOfKey (nestedKind P w)) ∧ (us.map (·.1)).Nodup
def KDO (P : Program) (w : World) (a : Addr) (rows : List Rw) : HO := .ext (KDok P w a rows)
def KD (P : Program) (w : World) (ks : List NestedKey) : Addr → HO → List V → Prop := fun a o vs => ∃ rows : List Rw, rows.map (·.1) = ks ∧ (∀ k ∈ ks, k.depth ≤ 8) ∧ o = KDO P w a rows ∧ vs = rows.flatMap fun r => [.ref r.2.1, r.2.2]
def kdC (P : Program) (w : World) (L : List (NestedKey × En)) : Cl := .ext (KD P w (L.map (·.1))) (L.flatMap fun x => [.d x.1.data, x.2])
section
variable {P : Program} {w : World} {a : Addr} {rows : List Rw} {h : Heap} {H : Hp}
theorem kdo_ok (x : KDok P w a rows h) : ObjOk P w H h a (KDO P w a rows) := by
  have ⟨z1, z2, us, z3, o, es, ep, z4, z5⟩ := x
  refine ⟨x, ⟨o, z4⟩, fun h1 h2 q k => ?_⟩
  obtain ⟨y1, y2, us', y3, o', es', ep', y4, y5⟩ := q
  exact ⟨y1, y2, us', y3, o', es', ep', k o' y4, y5⟩
theorem rows_pairs {K : Fg} {Hi : Hp} {al : List Addr} : ∀ {L : List (NestedKey × En)} {rows : List Rw}, rows.map (·.1) = L.map (·.1) → Paired (EnR K Hi al) (L.flatMap fun x => [.d x.1.data, x.2]) (rows.flatMap fun r => [.ref r.2.1, r.2.2]) →
    Paired (fun (x : NestedKey × En) (r : Rw) => x.1 = r.1 ∧ Dp K Hi (.ref r.2.1) x.1.data ∧ EnR K Hi al x.2 r.2.2) L rows
  | [], [], _, _ => .nil
  | [], _ :: _, e, _ => nomatch e
  | _ :: _, [], e, _ => nomatch e
  | x :: L, r :: rows, e, h => by
    rw [List.map_cons, List.map_cons] at e
    obtain ⟨e1, e2⟩ := List.cons.inj e
    rw [List.flatMap_cons, List.flatMap_cons] at h
    cases h with
    | cons h1 t =>
      cases t with
      | cons h2 t => exact .cons ⟨e1.symm, h1, h2⟩ (rows_pairs e2 t)
theorem pairs_rows {K : Fg} {Hi : Hp} {al : List Addr} : ∀ {L : List (NestedKey × En)} {rows : List Rw}, Paired (fun (x : NestedKey × En) (r : Rw) => x.1 = r.1 ∧ Dp K Hi (.ref r.2.1) x.1.data ∧ EnR K Hi al x.2 r.2.2) L rows →
    rows.map (·.1) = L.map (·.1) ∧ Paired (EnR K Hi al) (L.flatMap fun x => [.d x.1.data, x.2]) (rows.flatMap fun r => [.ref r.2.1, r.2.2])
  | _, _, .nil => ⟨rfl, .nil⟩
  | _, _, .cons r t => by
    obtain ⟨a, b⟩ := pairs_rows t
    exact ⟨by rw [List.map_cons, List.map_cons, a, r.1], .cons r.2.1 (.cons r.2.2 b)⟩
end
mutual
theorem nest_of {X : Cx} {pins : List (Addr × Obj)} {σ : L2.St} {H : Hp} {s : Shared} (I : Inv X pins σ H s) : ∀ (k : NestedKey) (v : V) (u : Value), Dp X.K H v k.data → RelV v u → NestedIs s.heap k u
  | .none, _, _, h, r => by cases h; cases r; exact .none
  | .num i, _, _, h, r => by
    cases h
    obtain ⟨t, rfl⟩ := r
    exact .int i t
  | .text x, _, _, h, r => by
    cases h
    obtain ⟨t, rfl⟩ := r
    exact .text x t
  | .tup ks, _, _, h, r => by
    have h' : Dp X.K H _ (.tuple (NestedKey.datas ks)) := h
    cases h' with
    | tup hs ha =>
      cases r
      obtain ⟨its, rv, ⟨o, ho, hc, n, hd⟩, _⟩ := I.tuple hs
      exact .tup ho hc hd (by simpa using nests_of I ks _ its ha rv)
theorem nests_of {X : Cx} {pins : List (Addr × Obj)} {σ : L2.St} {H : Hp} {s : Shared} (I : Inv X pins σ H s) : ∀ (ks : List NestedKey) (vs : List V) (us : List Value), DpAll X.K H vs (NestedKey.datas ks) → Vals vs us → NestedAll s.heap ks us
  | [], _, _, h, r => by
    have h' : DpAll X.K H _ [] := h
    cases h'; cases r; exact .nil
  | k :: ks, _, _, h, r => by
    have h' : DpAll X.K H _ (k.data :: NestedKey.datas ks) := h
    cases h' with
    | cons h1 h2 =>
      cases r with
      | cons r1 r2 => exact .cons (nest_of I k _ _ h1 r1) (nests_of I ks _ _ h2 r2)
end
def KeysOn (K : Fg) (H : Hp) (rows : List Rw) : Prop := ∀ r ∈ rows, Dp K H (.ref r.2.1) r.1.data ∧ r.1.depth ≤ 8
section
variable {X : Cx} {pins : List (Addr × Obj)} {σ : L2.St} {H : Hp} {s : Shared} {a p : Addr} {rows : List Rw} {k : NestedKey}
theorem pair_keys {rows : List Rw} {us : List (NestedKey × Addr × Value)} (h : Paired RwR rows us) : us.map (·.1) = rows.map (·.1) := by
  induction h with
  | nil => rfl
  | cons r t ih => rw [List.map_cons, List.map_cons, ih, r.1]
theorem pairsH_keys (us : List (NestedKey × Addr × Value)) : (pairsH us).map (·.1) = us.map (·.1) := by simp [pairsH, Function.comp_def]
theorem kdo_get (I : Inv X pins σ H s) (e : H a = some (KDO X.prog X.w a rows)) (hk : KeysOn X.K H rows) :
    ∃ us : List (NestedKey × Addr × Value), Paired RwR rows us ∧ rows.length ≤ sizeLine ∧ (a == sysModules) = false ∧ s.heap.DictOfH (nestedKind X.prog X.w) a us := by
  obtain ⟨hφ, -⟩ := I.hok _ _ e
  obtain ⟨z1, z2, us, z3, o, es, ep, z4, z5, z6, z7, z8⟩ := hφ
  refine ⟨us, z3, z1, z2, o, es, ep, z4, z5, z6, z7, ?_, z8⟩
  clear z7 z8 e z1
  induction z3 with
  | nil => intro x hx; cases hx
  | @cons r u rs us' h t ih =>
    intro x hx
    rcases List.mem_cons.mp hx with rfl | hx
    · obtain ⟨d1, d2⟩ := hk r List.mem_cons_self
      refine ⟨?_, by rw [← h.1]; exact d2⟩
      rw [← h.1, ← h.2.1]
      exact nest_of I _ _ _ d1 rfl
    · exact ih (fun r hr => hk r (List.mem_cons_of_mem _ hr)) x hx
theorem key_is (I : Inv X pins σ H s) (hd : Dp X.K H (.ref p) k.data) (hk : k.depth ≤ 8) : (nestedKind X.prog X.w).is s.heap k p := ⟨nest_of I k _ _ hd rfl, hk⟩
theorem valueAt_some {us : List (NestedKey × Value)} : (valueAt us k).isSome = decide (k ∈ us.map (·.1)) := by
  induction us with
  | nil => rfl
  | cons x us ih =>
    by_cases h : x.1 = k
    · simp [valueAt, h]
    · have h' : ¬ k = x.1 := fun e => h e.symm
      have e : valueAt (x :: us) k = valueAt us k := by simp [valueAt, h]
      rw [e, ih]; simp [h']
end
section
variable {X : Cx}
def rInK (K : Fg) (P : Program) (w : World) (n : Bool) : R2 := fun x y H Q => ∃ (k : NestedKey) (p a : Addr) (rows : List Rw), x = .ref p ∧ y = .ref a ∧ H a = some (KDO P w a rows) ∧ KeysOn K H rows ∧ Dp K H (.ref p) k.data ∧ k.depth ≤ 8 ∧ Q (.bl (decide (k ∈ rows.map (·.1)) != n)) H
theorem op_inK (hu : X.A.units + 64 < cLine) : OpR X (compareOp .In) (rInK X.K X.prog X.w false) := by
  intro pins s σ H x y v u Q I rx ry h
  obtain ⟨k, p, a, rows, rfl, rfl, e, hk, hd, hdp, q⟩ := h
  cases rx; cases ry
  obtain ⟨us, z1, z2, z3, z4⟩ := kdo_get I e hk
  refine in_keyed (knd := nestedKind X.prog X.w) (show X.A.units + 1 + 8 < cLine by omega) (key_is I hd hdp) z3 ⟨us, z4, rfl⟩ ⟨.bl _, H, I.tok _, rfl, ?_⟩
  rw [valueAt_some, pairsH_keys, pair_keys z1]
  simpa using q
theorem op_ninK (hu : X.A.units + 64 < cLine) : OpR X (compareOp .NotIn) (rInK X.K X.prog X.w true) := by
  intro pins s σ H x y v u Q I rx ry h
  obtain ⟨k, p, a, rows, rfl, rfl, e, hk, hd, hdp, q⟩ := h
  cases rx; cases ry
  obtain ⟨us, z1, z2, z3, z4⟩ := kdo_get I e hk
  refine notIn_keyed (knd := nestedKind X.prog X.w) (show X.A.units + 1 + 8 < cLine by omega) (key_is I hd hdp) z3 ⟨us, z4, rfl⟩ ⟨.bl _, H, I.tok _, rfl, ?_⟩
  rw [valueAt_some, pairsH_keys, pair_keys z1]
  simpa using q
/-- d[k] = v, k new -/
def rPutK (K : Fg) (P : Program) (w : World) : V → V → V → Hp → (Hp → Prop) → Prop := fun o i v H Q => ∃ (k : NestedKey) (p a : Addr) (rows : List Rw), o = .ref a ∧ i = .ref p ∧ H a = some (KDO P w a rows) ∧ KeysOn K H rows ∧ Dp K H (.ref p) k.data ∧ k.depth ≤ 8 ∧
  k ∉ rows.map (·.1) ∧ rows.length + 1 ≤ sizeLine ∧ Q (upd H a (KDO P w a (rows ++ [(k, p, v)])))
theorem set_K (hu : X.A.units + 64 < cLine) : PSet X (rPutK X.K X.prog X.w) := by
  intro pins s σ H o i v ov iv u Q I ro ri rv h
  obtain ⟨k, p, a, rows, rfl, rfl, e, hk, hd, hdp, hn, hz, q⟩ := h
  cases ro; cases ri
  obtain ⟨us, z1, z2, z3, z4⟩ := kdo_get I e hk
  have hl : us.length = rows.length := by
    have := congrArg List.length (pair_keys z1)
    simpa using this
  have hnk : k ∉ us.map (·.1) := by rw [pair_keys z1]; exact hn
  have hat : atKey us k = none := by
    have h1 : (valueAt (pairsH us) k).isSome = false := by rw [valueAt_some, pairsH_keys]; exact decide_eq_false hnk
    rw [valueAt_pairsH, Option.isSome_map] at h1
    cases h2 : atKey us k with
    | none => rfl
    | some x => rw [h2] at h1; cases h1
  refine wpAny_setItem_heap (knd := nestedKind X.prog X.w) (show X.A.units + 1 + 8 < cLine by omega) (key_is I hd hdp) z4 (fun h' dd hs => ?_) (by rw [hl]; exact z2)
  rw [storedH_new hat] at dd
  obtain ⟨o', es, ep, y4, y5, y6, y7, y8, y9⟩ := dd
  refine ⟨_, d_write I (by rw [e]; exact True.intro) hs ⟨_, y4⟩ (kdo_ok ⟨by simpa using hz, z3, us ++ [(k, p, u)], paired_app z1 (.cons ⟨rfl, rfl, rv⟩ .nil), o', es, ep, y4, y5, y6, y7, y9⟩), q⟩
/-- {k: v} -/
def tDispK (K : Fg) (P : Program) (w : World) (tk tv : TE) : TE := fun σ H Q => ∀ p, H p = none → tk σ (upd H p (KDO P w p [])) fun x H1 => tv σ H1 fun y H2 => H2 p = some (KDO P w p []) ∧
  ∃ (kk : NestedKey) (q : Addr), x = .ref q ∧ Dp K H2 x kk.data ∧ kk.depth ≤ 8 ∧ Q (.ref p) (upd H2 p (KDO P w p [(kk, q, y)]))
theorem kdo_empty {P : Program} {w : World} {H : Hp} (h : Heap) (hb : sysModules < h.objs.size) : ObjOk P w H (h.push { cls := .type "dict", data := .dict #[] }) h.objs.size (KDO P w h.objs.size []) :=
  kdo_ok ⟨Nat.zero_le _, beq_eq_false_iff_ne.mpr (Ne.symm (Nat.ne_of_lt hb)), [], .nil, _, #[], 0, Heap.get?_push_size _ rfl, ⟨rfl, rfl, rfl⟩, rfl, rfl, List.nodup_nil⟩
theorem pe_dispK {k v : Expr} {pos : Pos} {tk tv : TE} (hu : X.A.units + 64 < cLine) (hk : PE X k tk) (hv : PE X v tv) : PE X (.Dict [some k] [v] pos) (tDispK X.K X.prog X.w tk tv) := by
  refine ⟨fun pins s σ H Q I q => ?_⟩
  have hn := I.hok.fresh (Nat.le_refl s.heap.objs.size)
  have I1 := I.laid (a := s.heap.objs.size) (o := KDO X.prog X.w s.heap.objs.size []) (h' := s.heap.push { cls := .type "dict", data := .dict #[] }) (t' := s.toks) (fun _ _ q => Heap.get?_push_of_some _ q) (Nat.le_refl _) (kdo_empty s.heap I.big)
  rw [arm_eval_Dict, show (evalEachOpt [some k] X.env).zip ((evalEach [v] X.env).map fun v => do let x ← v; standAt pos; pure x) = (pairTrees [some k] [v] X.env pos).map (fun p => (some p.1, p.2)) from rfl, dictDisplay_pairs (pairTrees [some k] [v] X.env pos) (fun z => nomatch z) (Nat.le_of_ble_eq_true rfl)]
  refine wpAny_bind (wpAny_standAt (wpAny_bind (wpAny_subDictH (knd := nestedKind X.prog X.w) (pairs := pairTrees [some k] [v] X.env pos) (Q := fun d s' => wpAny (model X.prog X.w) X.A (pure (Value.ref d)) (EP X pins σ Q) X.xe s') (show X.A.units + 8 < cLine by omega) (Nat.le_of_ble_eq_true rfl) ?_)))
  refine thn ((pps_cons hk hv pps_nil).run pins _ σ _ (fun ps H2 => match ps with
    | [(x, y)] => H2 s.heap.objs.size = some (KDO X.prog X.w s.heap.objs.size []) ∧
      ∃ (kk : NestedKey) (q : Addr), x = .ref q ∧ Dp X.K H2 x kk.data ∧ kk.depth ≤ 8 ∧ Q (.ref s.heap.objs.size) (upd H2 s.heap.objs.size (KDO X.prog X.w s.heap.objs.size [(kk, q, y)]))
    | _ => False) I1 (q _ hn)) fun ws s2 ⟨ps, H2, I2, rel, e⟩ => ?_
  cases rel with
  | nil => exact e.elim
  | @cons pv wp _ _ r t =>
    cases t with
    | cons _ _ => exact e.elim
    | nil =>
      obtain ⟨x, y⟩ := pv
      obtain ⟨w1, w2⟩ := wp
      obtain ⟨e, kk, qa, ex, hd, hdp, q2⟩ := e
      obtain ⟨r1, r2⟩ := r
      have ex' : x = .ref qa := ex
      subst ex'
      have r1' : w1 = Value.ref qa := r1
      subst r1'
      obtain ⟨us, z1, z2, z3, z4⟩ := kdo_get (rows := []) I2 e (fun r hr => nomatch hr)
      cases z1
      refine ⟨[(kk, qa, w2)], ⟨rfl, rfl, key_is I2 hd hdp, True.intro⟩, z4, fun h' tk' dd hs => wpAny_pure ?_⟩
      obtain ⟨o', es, ep, y4, y5, y6, y7, y8, y9⟩ := dd
      exact ⟨.ref s.heap.objs.size, _, d_write I2 (by rw [e]; exact True.intro) hs ⟨_, y4⟩ (kdo_ok ⟨Nat.le_of_ble_eq_true rfl, z3, [(kk, qa, w2)], .cons ⟨rfl, rfl, r2⟩ .nil, o', es, ep, y4, y5, y6, y7, y9⟩), rfl, q2⟩
end
/-! ### the data level -/
section
variable {K : Fg} {S : List Cl} {P : Program} {w : World} {i : Nat} {L : List (NestedKey × En)} {ks : List NestedKey}
theorem tup_ref {Hi : Hp} {v : V} (h : Dp K Hi v (NestedKey.data (.tup ks))) : ∃ p, v = .ref p := by
  have h' : Dp K Hi v (.tuple (NestedKey.datas ks)) := h
  cases h' with
  | tup _ _ => exact ⟨_, rfl⟩
theorem cell_kd {Hi H : Hp} {al : List Addr} {a : Addr} (W : Wd K Hi H al S) (hc : S[i]? = some (kdC P w L)) (ha : al[i]? = some a) :
    ∃ rows : List Rw, H a = some (KDO P w a rows) ∧ rows.map (·.1) = L.map (·.1) ∧ KeysOn K H rows ∧ (∀ k ∈ L.map (·.1), k.depth ≤ 8) ∧
      Paired (fun (x : NestedKey × En) (r : Rw) => x.1 = r.1 ∧ Dp K Hi (.ref r.2.1) x.1.data ∧ EnR K Hi al x.2 r.2.2) L rows := by
  obtain ⟨_, z⟩ := W.cells i _ a hc ha (fun z => nomatch z)
  obtain ⟨o', vs, e, ⟨rows, e1, e2, rfl, rfl⟩, hp⟩ := CR.ext_get z
  have pr := rows_pairs e1 hp
  refine ⟨rows, e, e1, fun r hr => ?_, e2, pr⟩
  have hd : r.1.depth ≤ 8 := e2 _ (by rw [← e1]; exact List.mem_map_of_mem hr)
  refine ⟨?_, hd⟩
  clear e e1 e2 hp z hd hc
  induction pr with
  | nil => cases hr
  | @cons x y xs ys q t ih =>
    rcases List.mem_cons.mp hr with rfl | hr
    · rw [← q.1]; exact dpM W.ex _ _ q.2.1
    · exact ih hr
theorem rv_inK {n : Bool} (hc : S[i]? = some (kdC P w L)) (hd : (NestedKey.tup ks).depth ≤ 8) : RV2 K (rInK K P w n) S (.d (NestedKey.tup ks).data) (.p i) (.d (.bool (decide (NestedKey.tup ks ∈ L.map (·.1)) != n))) S := fun Hi H al v u Q W rv ru k => by
  obtain ⟨p, rfl⟩ := tup_ref rv
  obtain ⟨a, ha, rfl⟩ := ru
  obtain ⟨rows, e, e1, hk, _, _⟩ := cell_kd W hc ha
  refine ⟨.tup ks, p, a, rows, rfl, rfl, e, hk, dpM W.ex _ _ rv, hd, ?_⟩
  rw [e1]
  exact k _ _ _ _ (Nx.refl W) W (.bl _)
end
section
variable {X : Cx} {G : Gm} {S S1 S2 S3 : List Cl} {x y : En} {a b : Expr} {pos : Pos} {i : Nat} {L : List (NestedKey × En)} {ks : List NestedKey}
theorem ds_putK {tpos : Pos} {oo : Expr} (hu : X.A.units + 64 < cLine) (hc : S3[i]? = some (kdC X.prog X.w L)) (hd : (NestedKey.tup ks).depth ≤ 8) (hn : NestedKey.tup ks ∉ L.map (·.1)) (hl : L.length + 1 ≤ 1000000) (ha : DE X G S a x S1) (ho : DE X G S1 oo (.p i) S2) (hb : DE X G S2 b (.d (NestedKey.tup ks).data) S3)
    (hs : swapsWithSole [.Subscript oo b tpos] a pos.line X.env = pure false := by rfl) (hw : swappedStores [.Subscript oo b tpos] a X.env = pure none := by rfl)
    (h1 : (assignEach [.Subscript oo b tpos] X.env).map (·.2) = [assign (.Subscript oo b tpos) X.env] := by rfl)
    (hq : ∀ v, assign (.Subscript oo b tpos) X.env v = (do let ov ← holding [v] (eval oo X.env); let iv ← holding [v, ov] (eval b X.env); standAt tpos; holding [v, ov, iv] (setItem ov iv v); release [v, ov, iv] []) := by intro _; rfl) :
    DS X G S (.Assign [.Subscript oo b tpos] a pos) (.nx G (S3.set i (kdC X.prog X.w (L ++ [(.tup ks, x)])))) :=
  ps_wk (ps_asg ha (pg_sub ho hb (set_K hu) hq) hs hw h1) fun D σ H ⟨Hi, al, w, s, k⟩ => ⟨Hi, al, w, s, fun Hi1 H1 al1 v n1 w1 r1 => ⟨Hi1, al1, w1, s.mono n1, fun Hi2 H2 al2 u n2 w2 r2 => ⟨Hi2, al2, w2, s.mono (n1.trans n2), fun Hi3 H3 al3 u3 n3 w3 r3 => by
    obtain ⟨ad, g1, rfl⟩ := EnR.mono (K := X.K) n3 r2
    obtain ⟨p, rfl⟩ := tup_ref r3
    obtain ⟨rows, e, e1, hk, hdp, pr⟩ := cell_kd w3 hc g1
    have hlen : rows.length = L.length := by
      have := congrArg List.length e1
      simpa using this
    refine ⟨.tup ks, p, ad, rows, rfl, rfl, e, hk, dpM w3.ex _ _ r3, hd, by rw [e1]; exact hn, by rw [hlen]; exact Nat.le_trans hl (by decide), ?_⟩
    have r3' : Dp X.K Hi3 (.ref p) (NestedKey.tup ks).data := r3
    obtain ⟨e2, pr2⟩ := pairs_rows (L := L ++ [(.tup ks, x)]) (rows := rows ++ [(.tup ks, p, v)]) (paired_app (R := fun (x : NestedKey × En) (r : Rw) => x.1 = r.1 ∧ Dp X.K Hi3 (.ref r.2.1) x.1.data ∧ EnR X.K Hi3 al3 x.2 r.2.2) pr (.cons ⟨rfl, r3', EnR.mono n3 (EnR.mono n2 r1)⟩ .nil))
    obtain ⟨w4, n4⟩ := w3.write (c' := kdC X.prog X.w (L ++ [(.tup ks, x)])) (o := KDO X.prog X.w ad (rows ++ [(.tup ks, p, v)])) hc g1 (fun z => nomatch z) (by
      unfold kdC
      rw [CR.ext_some]
      refine ⟨_, ⟨_, e2, fun k hk => ?_, rfl, rfl⟩, pr2⟩
      rw [List.map_append, List.mem_append] at hk
      rcases hk with hk | hk
      · exact hdp k hk
      · rw [List.mem_singleton.mp hk]; exact hd)
    exact k _ _ _ (((n1.trans n2).trans n3).trans n4) w4 σ (s.mono (((n1.trans n2).trans n3).trans n4))⟩⟩⟩
theorem de_dispK (hu : X.A.units + 64 < cLine) (hd : (NestedKey.tup ks).depth ≤ 8) (ha : DE X G (S ++ [kdC X.prog X.w []]) a (.d (NestedKey.tup ks).data) S1) (hb : DE X G S1 b y S2) (hc : S2[S.length]? = some (kdC X.prog X.w [])) :
    DE X G S (.Dict [some a] [b] pos) (.p S.length) (S2.set S.length (kdC X.prog X.w [(.tup ks, y)])) :=
  pe_wk (pe_dispK hu ha hb) fun σ H Q ⟨Hi, al, w, s, k⟩ p hp => by
    obtain ⟨w0, n0⟩ := w.cell (c := kdC X.prog X.w []) (o := KDO X.prog X.w p []) hp (by
      unfold kdC
      rw [CR.ext_some]
      exact ⟨[], ⟨[], rfl, (fun k hk => nomatch hk), rfl, rfl⟩, .nil⟩)
    refine ⟨Hi, _, w0, s.mono n0, fun Hi1 H1 al1 v n1 w1 r1 => ⟨Hi1, al1, w1, s.mono (n0.trans n1), fun Hi2 H2 al2 u n2 w2 r2 => ?_⟩⟩
    have r1' : Dp X.K Hi2 v (NestedKey.tup ks).data := dpM n2.ex _ _ r1
    obtain ⟨q, rfl⟩ := tup_ref r1'
    have ga : al2[S.length]? = some p := by
      have hb : ∃ be, al2 = (al ++ [p]) ++ be := let ⟨be, e, _⟩ := (n1.trans n2).pre; ⟨be, e⟩
      obtain ⟨be, rfl⟩ := hb
      rw [← w.len, List.append_assoc, List.getElem?_append_right (Nat.le_refl _)]
      simp
    obtain ⟨rows, e, e1, _, _, _⟩ := cell_kd w2 hc ga
    have e0 : rows = [] := by
      cases rows with
      | nil => rfl
      | cons _ _ => cases e1
    subst e0
    refine ⟨e, .tup ks, q, rfl, dpM w2.ex _ _ r1', hd, ?_⟩
    obtain ⟨e2, pr2⟩ := pairs_rows (K := X.K) (Hi := Hi2) (al := al2) (L := [(NestedKey.tup ks, y)]) (rows := [(.tup ks, q, u)]) (.cons ⟨rfl, r1', r2⟩ .nil)
    obtain ⟨w4, n4⟩ := w2.write (c' := kdC X.prog X.w [(.tup ks, y)]) (o := KDO X.prog X.w p [(.tup ks, q, u)]) hc ga (fun z => nomatch z) (by
      unfold kdC
      rw [CR.ext_some]
      refine ⟨_, ⟨_, e2, fun k hk => ?_, rfl, rfl⟩, pr2⟩
      rw [List.mem_singleton.mp hk]; exact hd)
    exact k _ _ _ _ (((n0.trans n1).trans n2).trans n4) w4 ⟨p, ga, rfl⟩
end
end AF

set_option Elab.async false
set_option linter.all false
set_option maxRecDepth 100000
set_option maxHeartbeats 4000000
namespace AF
open PySem PySem.Spec PyProof.Rows L2
section
variable {K : Fg} {S : List Cl}
theorem rv_eqS {i j : Str} : RV2 K rEq S (.d (.str i)) (.d (.str j)) (.d (.bool (decide (i = j)))) S := fun Hi H al v u Q w rv ru k => by
  cases rv; cases ru
  refine ⟨rfl, ?_⟩
  have e : decide (V.str i = V.str j) = decide (i = j) := by
    by_cases h : i = j
    · subst h; simp
    · rw [decide_eq_false h, decide_eq_false (fun z => h (V.str.inj z))]
  rw [e]
  exact k _ _ _ _ (Nx.refl w) w (.bl _)
theorem rv_neS {i j : Str} : RV2 K rNe S (.d (.str i)) (.d (.str j)) (.d (.bool (!decide (i = j)))) S := fun Hi H al v u Q w rv ru k => by
  cases rv; cases ru
  refine ⟨rfl, ?_⟩
  have e : decide (V.str i = V.str j) = decide (i = j) := by
    by_cases h : i = j
    · subst h; simp
    · rw [decide_eq_false h, decide_eq_false (fun z => h (V.str.inj z))]
  rw [e]
  exact k _ _ _ _ (Nx.refl w) w (.bl _)
end
theorem picks_B {β : Type} (d0 : β) (q : β → Bool) (h : β → PyData) (bs : List β) : ∀ n, n ≤ bs.length → picks (fun i => q (bs.getD i d0)) (fun i => .d (h (bs.getD i d0))) n = (((bs.take n).filter q).map h).map .d
  | 0, _ => by simp [picks]
  | n + 1, hn => by
    have hl : n < bs.length := hn
    rw [picks, picks_B d0 q h bs n (Nat.le_of_lt hl), List.take_succ_eq_append_getElem hl, List.filter_append, List.map_append, List.map_append]
    have e : bs.getD n d0 = bs[n] := by simp [hl]
    rw [e]
    by_cases z : q bs[n] = true
    · rw [if_pos z, List.filter_cons, if_pos z]; rfl
    · rw [if_neg z, List.filter_cons, if_neg z]; rfl
/-- the slots' pointers lie below n -/
def LoG (n : Nat) : Gm → Prop
  | [] => True
  | none :: t => LoG n t
  | some (.d _) :: t => LoG n t
  | some (.p i) :: t => i < n ∧ LoG n t
theorem LoG.lo {n : Nat} : ∀ {G : Gm} {i : Nat} {e : En}, LoG n G → G[i]? = some (some e) → e.lo n = true
  | [], _, _, _, h => by simp at h
  | none :: t, 0, _, _, h => by simp at h
  | none :: t, i + 1, _, g, h => LoG.lo (G := t) (i := i) g (by simpa using h)
  | some (.d x) :: t, 0, _, _, h => by simp at h; subst h; rfl
  | some (.d x) :: t, i + 1, _, g, h => LoG.lo (G := t) (i := i) g (by simpa using h)
  | some (.p j) :: t, 0, _, g, h => by simp at h; subst h; exact decide_eq_true g.1
  | some (.p j) :: t, i + 1, _, g, h => LoG.lo (G := t) (i := i) g.2 (by simpa using h)
section
variable {X : Cx} {G G1 : Gm} {S S1 S2 T : List Cl} {a elt iter tg : Expr} {p pos : Pos} {β : Type} {bs : List β}
theorem lc_gB {scope : Scope} {own : List (Str × Nat)} {ifs : List Expr} {g : TG} {ix : List Nat} {f : En → Gm → Gm} (d0 : β) (enc : β → PyData) (q : β → Bool) (h : β → PyData) (hc : X.calm = true) (hN : X.N.Nodup) (hi : DI X G S tg iter ((bs.map enc).map .d) S1) (ok : BlkOk X.N X.env.scope scope own)
    (hg : ∀ (s : Shared) (H : Hp) (C : Addr) (cl : List (Str × Addr)) (fp : List Addr), PG (X.blk s H scope (compEnvC scope cl C X.env) fp) tg g) (ht : ∀ b ∈ bs, TgR X.K g ix (.d (enc b)) (f (.d (enc b)))) (hix : ∀ i ∈ ix, i ∈ own.map (·.2)) (hl : bs.length ≤ 1000000)
    (htt : ∀ b ∈ bs, ∀ (s : Shared) (H : Hp) (C : Addr) (cl : List (Str × Addr)) (fp : List Addr), PTs (X.blk s H scope (compEnvC scope cl C X.env) fp) ifs (rT X.K (f (.d (enc b)) (wipeG G (own.map (·.2)))) S1 (q b) S1))
    (he : ∀ b ∈ bs, q b = true → ∀ (s : Shared) (H : Hp) (C : Addr) (cl : List (Str × Addr)) (fp : List Addr), DE (X.blk s H scope (compEnvC scope cl C X.env) fp) (f (.d (enc b)) (wipeG G (own.map (·.2)))) S1 elt (.d (h b)) S1)
    (hs : ∀ x, foldedSetIterable iter X.env x = pure x := by intro _; rfl) : LC X G S (.ListComp elt [⟨tg, iter, ifs, 0⟩] scope pos) (.p S1.length) (S1 ++ [.lst (((bs.filter q).map h).map .d)]) := by
  have hat : ∀ (i : Nat) (e : En), ((bs.map enc).map En.d)[i]? = some e → bs.getD i d0 ∈ bs ∧ e = .d (enc (bs.getD i d0)) := fun i e hx => by
    rw [List.getElem?_map, List.getElem?_map] at hx
    cases z : bs[i]? with
    | none => rw [z] at hx; cases hx
    | some b =>
      rw [z] at hx
      have e2 : bs.getD i d0 = b := by simp [z]
      rw [e2]
      exact ⟨List.mem_of_getElem? z, (Option.some.inj hx).symm⟩
  have z := lc_gen (pos := pos) (fun _ => S1) (fun _ => S1) (fun i => q (bs.getD i d0)) (fun i => .d (h (bs.getD i d0))) hc hN hi ok hg (fun e he => by
      obtain ⟨d, hd, rfl⟩ := List.mem_map.mp he
      obtain ⟨b, hb, rfl⟩ := List.mem_map.mp hd
      exact ht b hb) hix (by simpa using hl) rfl
    (fun i e hx s H C cl fp => by
      obtain ⟨hb, rfl⟩ := hat i e hx
      exact htt _ hb s H C cl fp)
    (fun i e hx hq s H C cl fp => by
      obtain ⟨hb, rfl⟩ := hat i e hx
      exact he _ hb hq s H C cl fp) (fun _ _ _ => rfl) hs
  have e3 := picks_B d0 q h bs bs.length (Nat.le_refl _)
  have e4 : ((bs.map enc).map En.d).length = bs.length := by simp
  rw [e4, e3, List.take_length] at z
  exact z
theorem lc_fB {scope : Scope} {own : List (Str × Nat)} {test : Expr} {g : TG} {ix : List Nat} {f : En → Gm → Gm} (d0 : β) (enc : β → PyData) (q : β → Bool) (h : β → PyData) (hc : X.calm = true) (hN : X.N.Nodup) (hi : DI X G S tg iter ((bs.map enc).map .d) S1) (ok : BlkOk X.N X.env.scope scope own)
    (hg : ∀ (s : Shared) (H : Hp) (C : Addr) (cl : List (Str × Addr)) (fp : List Addr), PG (X.blk s H scope (compEnvC scope cl C X.env) fp) tg g) (ht : ∀ b ∈ bs, TgR X.K g ix (.d (enc b)) (f (.d (enc b)))) (hix : ∀ i ∈ ix, i ∈ own.map (·.2)) (hl : bs.length ≤ 1000000)
    (htt : ∀ b ∈ bs, ∀ (s : Shared) (H : Hp) (C : Addr) (cl : List (Str × Addr)) (fp : List Addr), DT (X.blk s H scope (compEnvC scope cl C X.env) fp) (f (.d (enc b)) (wipeG G (own.map (·.2)))) S1 test (q b) S1)
    (he : ∀ b ∈ bs, q b = true → ∀ (s : Shared) (H : Hp) (C : Addr) (cl : List (Str × Addr)) (fp : List Addr), DE (X.blk s H scope (compEnvC scope cl C X.env) fp) (f (.d (enc b)) (wipeG G (own.map (·.2)))) S1 elt (.d (h b)) S1)
    (hs : ∀ x, foldedSetIterable iter X.env x = pure x := by intro _; rfl) : LC X G S (.ListComp elt [⟨tg, iter, [test], 0⟩] scope pos) (.p S1.length) (S1 ++ [.lst (((bs.filter q).map h).map .d)]) :=
  lc_gB d0 enc q h hc hN hi ok hg ht hix hl (fun b hb s H C cl fp => pts_one (htt b hb s H C cl fp)) he hs
theorem lc_mB {scope : Scope} {own : List (Str × Nat)} {g : TG} {ix : List Nat} {f : En → Gm → Gm} (d0 : β) (enc h : β → PyData) (hc : X.calm = true) (hN : X.N.Nodup) (hi : DI X G S tg iter ((bs.map enc).map .d) S1) (ok : BlkOk X.N X.env.scope scope own)
    (hg : ∀ (s : Shared) (H : Hp) (C : Addr) (cl : List (Str × Addr)) (fp : List Addr), PG (X.blk s H scope (compEnvC scope cl C X.env) fp) tg g) (ht : ∀ b ∈ bs, TgR X.K g ix (.d (enc b)) (f (.d (enc b)))) (hix : ∀ i ∈ ix, i ∈ own.map (·.2)) (hl : bs.length ≤ 1000000)
    (he : ∀ b ∈ bs, ∀ (s : Shared) (H : Hp) (C : Addr) (cl : List (Str × Addr)) (fp : List Addr), DE (X.blk s H scope (compEnvC scope cl C X.env) fp) (f (.d (enc b)) (wipeG G (own.map (·.2)))) S1 elt (.d (h b)) S1)
    (hs : ∀ x, foldedSetIterable iter X.env x = pure x := by intro _; rfl) : LC X G S (.ListComp elt [⟨tg, iter, [], 0⟩] scope pos) (.p S1.length) (S1 ++ [.lst ((bs.map h).map .d)]) := by
  have z := lc_gB (pos := pos) (ifs := []) d0 enc (fun _ => true) h hc hN hi ok hg ht hix hl
    (fun b hb s H C cl fp => ⟨fun pins s σ H Q I ⟨Hi, al, w, sl, k⟩ => pts_nil.run pins s σ H Q I (k _ _ _ (Nx.refl w) w)⟩) (fun b hb _ => he b hb) hs
  rw [List.filter_eq_self.mpr (fun _ _ => rfl)] at z
  exact z
/-- sorted(ts) -/
theorem de_sortT {ds : List PyData} (hu : X.A.units + 64 < cLine) (hm : X.mg "sorted" = none) (hal : PySem.W.AllAlike ds) (hk : PySem.W.Sortable ds) (hd : ∀ d ∈ ds, d.depth ≤ 60) (ha : DE X G S a (.d (.tuple ds)) S1) (hg : Gl X "sorted" := by rfl)
    (he : starEach [a] X.env = (false, eval a X.env) :: starEach [] X.env := by rfl) : DE X G S (.Call (.Name "sorted" p) [a] [] pos) (.p S1.length) (S1 ++ [.lst ((ds.mergeSort (PySem.W.dataLe false id)).map .d)]) :=
  de_cb (call_sortT hu) (fun Hi H al vs Q w r k => by
    cases r with
    | cons r1 t =>
      cases t
      have r1' : Dp X.K Hi _ (.tuple ds) := r1
      cases r1' with
      | tup hq hdd =>
        rename_i ad us
        refine ⟨ad, us, ds, Dp X.K Hi, rfl, sqT_same w.ex hq, dps_pd hdd, fun v d r => dpM w.ex _ _ r, hal, hk, hd, fun l out hl ho => ?_⟩
        have n2 := (w.cell (c := .gone) (o := .lst out) hl trivial).2
        have hp : Paired (EnR X.K Hi al) ((ds.mergeSort (PySem.W.dataLe false id)).map .d) out := by
          have go : ∀ {es : List PyData} {vs : List V}, Paired (Dp X.K Hi) vs es → Paired (EnR X.K Hi al) (es.map .d) vs := by
            intro es
            induction es with
            | nil => intro vs h; cases h; exact .nil
            | cons e es ih =>
              intro vs h
              cases h with
              | cons r t => exact .cons r (ih t)
          exact go ho
        obtain ⟨w2, n2⟩ := w.cell (c := .lst ((ds.mergeSort (PySem.W.dataLe false id)).map .d)) (o := .lst out) hl (paired_imp (fun _ _ r => EnR.mono n2 r) hp)
        exact k _ _ _ _ n2 w2 ⟨l, by rw [← w.len]; simp, rfl⟩) hg hm PyProof.Rows.boot_sorted (da_cons ha da_nil he) (by decide) (by decide) he rfl
/-- what was made in a block's end is forgotten -/
theorem db_dropE {sts : List Stmt} {G2 : Gm} (h : DB X G S sts (.nx G2 (S1 ++ T))) (hg : LoG S1.length G1) (hs : S.all (Cl.lo S.length) = true → S1.all (Cl.lo S1.length) = true) (hl : S.length ≤ S1.length) (hle : Le G1 G2 := by exact Le.refl _) : DB X G S sts (.nx G1 S1) :=
  pss_wk h fun D σ H ⟨Hi, al, w, s, k⟩ => ⟨Hi, al, w, s, fun Hi1 H1 al1 n1 w1 σ1 s1 => by
    have w2 := w1.drop (hs w.lo)
    have s1 := s1.le hle
    refine k _ _ _ (n1.drop (n := S1.length) (by rw [w.len]; exact hl)) w2 σ1 ⟨s1.len, fun i e he => ?_⟩
    obtain ⟨v, h1, r⟩ := s1.get i e he
    refine ⟨v, h1, ?_⟩
    have el : e.lo S1.length = true := hg.lo he
    have e' : al1 = al1.take S1.length ++ al1.drop S1.length := (List.take_append_drop _ _).symm
    rw [e'] at r
    exact r.lo (by rw [w2.len]; exact el)⟩
end
end AF

set_option Elab.async false
set_option linter.all false
set_option maxRecDepth 100000
namespace AF
open PySem L2
def top (i : Nat) : Stmt := PySem.Challenge.pw_asfound_k43_whole_no_shorter_row.main.body.getD i (.Pass ⟨0, 0, 0, 0⟩)
abbrev s_check_leaving : Stmt := top 5
theorem sc_check_leaving : FnScope ["names", "hands", "at", "name"] ["names", "hands"] (defScope s_check_leaving) := ⟨rfl, rfl, rfl, by decide +kernel, rfl, by decide +kernel, by decide +kernel⟩
--  0 names  1 hands  2 at  3 name
abbrev s_is_stretch : Stmt := top 6
theorem sc_is_stretch : FnScope ["layers", "hands"] ["layers", "hands"] (defScope s_is_stretch) := ⟨rfl, rfl, rfl, by decide +kernel, rfl, by decide +kernel, by decide +kernel⟩
--  0 layers  1 hands
abbrev s_cuts_of : Stmt := top 7
theorem sc_cuts_of : FnScope ["layers", "hands", "cuts", "begin", "end"] ["layers", "hands"] (defScope s_cuts_of) := ⟨rfl, rfl, rfl, by decide +kernel, rfl, by decide +kernel, by decide +kernel⟩
--  0 layers  1 hands  2 cuts  3 begin  4 end
abbrev s_stretch_deeds : Stmt := top 8
theorem sc_stretch_deeds : FnScope ["layers", "hands", "slot", "spare", "laid", "hand"] ["layers", "hands", "slot"] (defScope s_stretch_deeds) := ⟨rfl, rfl, rfl, by decide +kernel, rfl, by decide +kernel, by decide +kernel⟩
--  0 layers  1 hands  2 slot  3 spare  4 laid  5 hand
abbrev s_leave : Stmt := top 9
theorem sc_leave : FnScope ["names", "hands", "slot", "layers", "deeds", "begin", "cuts", "end"] ["names", "hands", "slot"] (defScope s_leave) := ⟨rfl, rfl, rfl, by decide +kernel, rfl, by decide +kernel, by decide +kernel⟩
--  0 names  1 hands  2 slot  3 layers  4 deeds  5 begin  6 cuts  7 end
abbrev s_l_box : Stmt := top 11
theorem sc_l_box : FnScope ["_law_script", "_law_k", "_law_cell", "_law_seed"] ["_law_script", "_law_k"] (defScope s_l_box) := ⟨rfl, rfl, rfl, by decide +kernel, rfl, by decide +kernel, by decide +kernel⟩
--  0 _law_script  1 _law_k  2 _law_cell  3 _law_seed
abbrev s_l_take : Stmt := top 12
theorem sc_l_take : FnScope ["_law_box_here", "_law_many", "_law_digit", "_law_one"] ["_law_box_here", "_law_many"] (defScope s_l_take) := ⟨rfl, rfl, rfl, by decide +kernel, rfl, by decide +kernel, by decide +kernel⟩
--  0 _law_box_here  1 _law_many  2 _law_digit  3 _law_one
abbrev s_l_mixed : Stmt := top 13
theorem sc_l_mixed : FnScope ["_law_box_here", "_law_items", "_law_left", "_law_found", "_law_turn"] ["_law_box_here", "_law_items"] (defScope s_l_mixed) := ⟨rfl, rfl, rfl, by decide +kernel, rfl, by decide +kernel, by decide +kernel⟩
--  0 _law_box_here  1 _law_items  2 _law_left  3 _law_found  4 _law_turn
abbrev s_l_names : Stmt := top 14
theorem sc_l_names : FnScope ["_law_box_here", "_law_many", "_law_letters", "_law_form", "_law_words", "_law_first", "_law_stem", "_law_at", "_law_found", "_law_k", "_law_letter", "_law_turn"] ["_law_box_here", "_law_many"] (defScope s_l_names) := ⟨rfl, rfl, rfl, by decide +kernel, rfl, by decide +kernel, by decide +kernel⟩
--  0 _law_box_here  1 _law_many  2 _law_letters  3 _law_form  4 _law_words  5 _law_first  6 _law_stem  7 _law_at  8 _law_found  9 _law_k  10 _law_letter  11 _law_turn
abbrev s_l_next : Stmt := top 15
theorem sc_l_next : FnScope ["_law_state", "_law_hands", "_law_word", "_law_founds", "_law_found", "_law_hand", "_law_rest", "_law_own", "_law_pair"] ["_law_state", "_law_hands"] (defScope s_l_next) := ⟨rfl, rfl, rfl, by decide +kernel, rfl, by decide +kernel, by decide +kernel⟩
--  0 _law_state  1 _law_hands  2 _law_word  3 _law_founds  4 _law_found  5 _law_hand  6 _law_rest  7 _law_own  8 _law_pair
abbrev s_l_least : Stmt := top 16
theorem sc_l_least : FnScope ["_law_names_here", "_law_hands", "_law_most", "_law_level", "_law_known", "_law_many", "_law_later", "_law_state", "_law_other"] ["_law_names_here", "_law_hands", "_law_most"] (defScope s_l_least) := ⟨rfl, rfl, rfl, by decide +kernel, rfl, by decide +kernel, by decide +kernel⟩
--  0 _law_names_here  1 _law_hands  2 _law_most  3 _law_level  4 _law_known  5 _law_many  6 _law_later  7 _law_state  8 _law_other
abbrev s_law : Stmt := top 17
theorem sc_law : FnScope ["_law_script", "_law_k", "_law_box_here", "_law_hands", "_law_names_here", "_law_deeds", "_law_cuts", "_law_turn"] ["_law_script"] (defScope s_law) := ⟨rfl, rfl, rfl, by decide +kernel, rfl, by decide +kernel, by decide +kernel⟩
--  0 _law_script  1 _law_k  2 _law_box_here  3 _law_hands  4 _law_names_here  5 _law_deeds  6 _law_cuts  7 _law_turn
end AF

set_option Elab.async false
set_option linter.all false
set_option maxRecDepth 100000
set_option maxHeartbeats 4000000
namespace AF
open PySem PySem.Spec PyProof.Rows L2
/-! ### the source of draws -/
abbrev Box := Int × Int × Int
def boxC (b : Box) : Cl := .lst [.d (.int b.1), .d (.int b.2.1), .d (.int b.2.2)]
def takeM (b : Box) (n : Int) : Int × Box :=
  if 0 < b.1 then (b.1 % n, (b.1 / n, b.2.1, b.2.2)) else
  let one := (b.2.1 + 104743 * (b.2.2 + 1)) * 69623 % 2147483647
  let sd := (one * 48281 + 30109) % 2147483629 + 1
  ((one * 2147483647 + sd) / 8191 % n, (b.1, sd, b.2.2 + 1))
def C_take : Ct := fun args S e S' => ∃ (i : Nat) (b : Box) (n : Int), args = [.p i, .d (.int n)] ∧ S[i]? = some (boxC b) ∧ 0 < n ∧ n < 1073741824 ∧ e = .d (.int (takeM b n).1) ∧ S' = S.set i (boxC (takeM b n).2)
theorem len_set {S : List Cl} {i : Nat} {c : Cl} : (S.set i c).length = S.length := by simp
theorem lo_set {S : List Cl} {i n : Nat} {c : Cl} (h : S.all (Cl.lo n) = true) (hc : c.lo n = true) : (S.set i c).all (Cl.lo n) = true := by
  rw [List.all_eq_true] at h ⊢
  intro x hx
  rcases List.mem_or_eq_of_mem_set hx with z | z
  · exact h x z
  · rw [z]; exact hc
theorem Fin.setd {S : List Cl} {i : Nat} {c : Cl} {d : PyData} (hc : c.lo S.length = true) : Fin S (.rt (.d d) (S.set i c)) (.d d) (S.set i c) := by
  have := Fin.same (S := S) (e := .d d) (S' := S.set i c) (T := []) (by simp) rfl fun h => by rw [len_set]; exact lo_set h hc
  rwa [List.append_nil] at this
theorem get_set {S : List Cl} {i : Nat} {c c' : Cl} (h : S[i]? = some c) : (S.set i c')[i]? = some c' := by
  rw [List.getElem?_set_self (List.getElem?_eq_some_iff.mp h).1]
theorem dv {X : Cx} {G : Gm} {S : List Cl} {x : En} {pos : Pos} (i : Nat) {nm : Str} (hg : G[i]? = some (some x)) (hN : X.N[i]? = some nm := by rfl) (hv : Vis X.env.scope nm := by first | exact Or.inl rfl | exact Or.inr (Or.inl rfl) | exact Or.inr (Or.inr rfl))
    (hd : (nm == ("__debug__" : Str)) = false := by decide) (hcd : (nm == ("__classdict__" : Str)) = false := by decide) : DE X G S (.Name nm pos) x S := de_var hg hN hv hd hcd
section
variable {P : Program} {w : World} {K : PySem.W.Frag} {mg : Str → Option Value} {base : Heap}
theorem ok_take {f : Addr} {fd : FuncData} (F : L2.Fun K "_law_take" "_law_take" s_l_take f fd) : FnOk P w K mg base L2.CX0 1 f fd ["_law_box_here", "_law_many"] (spOf K C_take) := by
  refine fn_c F sc_l_take (fun args S e S' h => by obtain ⟨i, b, n, rfl, _⟩ := h; rfl) fun cdv A outer s H E hr args S e S' h => ?_
  obtain ⟨i, b, n, rfl, hS, h0, h1, rfl, rfl⟩ := h
  obtain ⟨b1, b2, b3⟩ := b
  have hn : n ≠ 0 := by omega
  by_cases hb : 0 < b1
  · refine ⟨.rt (.d (.int (b1 % n))) (S.set i (boxC (b1 / n, b2, b3))), db_out (ds_if (dt_cmp op_gt rv_ib (de_ixL (.c hS) rfl rfl (dv 0 rfl) de_int) de_int)
      (fun _ => db_cons (ds_set (i := 2) (de_bin op_mod (rv_iC h0) (de_ixL (.c hS) rfl rfl (dv 0 rfl) de_int) (dv 1 rfl)) sc_l_take.nd)
        (db_cons (ds_setL hS rfl (de_bin op_fdiv (rv_iC ⟨h0, h1⟩) (de_ixL (.c hS) rfl rfl (dv 0 rfl) de_int) (dv 1 rfl)) (dv 0 rfl) de_int)
        (db_one (ds_ret (dv 2 rfl)))))
      (fun h => absurd h (by simp [hb]))) rfl, ?_⟩
    have e : takeM (b1, b2, b3) n = (b1 % n, (b1 / n, b2, b3)) := by unfold takeM; rw [if_pos hb]
    rw [e]
    exact Fin.setd rfl
  · have g1 : ∀ {c : Cl}, (S.set i c)[i]? = some c := fun {c} => get_set hS
    have g2 : ∀ {c c' : Cl}, ((S.set i c).set i c')[i]? = some c' := fun {c c'} => get_set g1
    refine ⟨_, db_cons (ds_if (dt_cmp op_gt rv_ib (de_ixL (.c hS) rfl rfl (dv 0 rfl) de_int) de_int) (fun h => absurd h (by simp [hb])) (fun _ => db_nil))
      (db_cons (ds_setL hS rfl (de_bin op_add rv_ii (de_ixL (.c hS) rfl rfl (dv 0 rfl) de_int) de_int) (dv 0 rfl) de_int)
      (db_cons (ds_set (i := 3) (de_bin op_mod (rv_iC (by decide)) (de_bin op_mul (rv_iC (.inr ⟨by decide, by decide⟩)) (de_bin op_add rv_ii (de_ixL (.c g1) rfl rfl (dv 0 rfl) de_int)
          (de_bin op_mul (rv_iC (.inl ⟨by decide, by decide⟩)) de_int (de_ixL (.c g1) rfl rfl (dv 0 rfl) de_int))) de_int) de_int) sc_l_take.nd)
      (db_cons (ds_setL g1 rfl (de_bin op_add rv_ii (de_bin op_mod (rv_iC (by decide)) (de_bin op_add rv_ii (de_bin op_mul (rv_iC (.inr ⟨by decide, by decide⟩)) (dv 3 rfl) de_int) de_int) de_int) de_int) (dv 0 rfl) de_int)
      (db_one (ds_ret (de_bin op_mod (rv_iC h0) (de_bin op_fdiv (rv_iC ⟨by decide, by decide⟩) (de_bin op_add rv_ii (de_bin op_mul (rv_iC (.inr ⟨by decide, by decide⟩)) (dv 3 rfl) de_int) (de_ixL (.c g2) rfl rfl (dv 0 rfl) de_int)) de_int) (dv 1 rfl))))))), ?_⟩
    unfold takeM
    dsimp only
    rw [if_neg hb, List.set_set]
    exact Fin.setd rfl
end
end AF

set_option Elab.async false
set_option linter.all false
set_option maxRecDepth 100000
set_option maxHeartbeats 4000000
namespace AF
open PySem PySem.Spec PyProof.Rows L2
theorem ixN_nat {n j : Nat} (h : j < n) : ixN n (j : Int) = some j := by
  unfold ixN
  rw [if_pos (by omega), if_pos (by omega)]
  simp
theorem ixN_int {n : Nat} {i : Int} (h0 : 0 ≤ i) (h : i < n) : ixN n i = some i.toNat := by
  unfold ixN
  rw [if_pos h0, if_pos h]
/-- the names of built-ins are the built-ins' -/
def blts : List Str := ["len", "abs", "int", "range", "list", "tuple", "sorted", "set", "max", "min", "enumerate", "zip", "sum", "repr", "isinstance", "all", "any", "dict", "reversed", "str", "bool"]
def Nb (mg : Str → Option Value) : Prop := ∀ x ∈ blts, mg x = none
theorem Nb.of {mg : Str → Option Value} (h : Nb mg) (x : Str) (hx : x ∈ blts := by decide +kernel) : mg x = none := h x hx
def intsD (ns : List Int) : List PyData := ns.map .int
def iabs (i : Int) : Int := if i < 0 then -i else i
def cellM (c1 c2 : Int) (ns : List Int) (k : Nat) : Int :=
  if k < ns.length then iabs (ns.getD k 0) else if 0 < ns.length then c1 * k + c2 + iabs (ns.getD (k % ns.length) 0) % 2147483629 * 69653 else c1 * k + c2
def boxM (c1 c2 : Int) (ns : List Int) (k : Nat) : Box :=
  let c := cellM c1 c2 ns k
  (if (10 : Int) ^ 18 ≤ c then c else 0, (c % 2147483629 * 48281 + 40693 * k) % 2147483629 + 1, 0)
def C_box (c1 c2 : Int) : Ct := fun args S e S' => ∃ (ns : List Int) (k : Nat), args = [.d (.list (intsD ns)), .d (.int k)] ∧ e = .p S.length ∧ S' = S ++ [boxC (boxM c1 c2 ns k)]
theorem ints_get {ns : List Int} {j : Nat} (h : j < ns.length) : ((intsD ns).map En.d)[j]? = some (.d (.int (ns.getD j 0))) := by
  simp [intsD, h]
theorem ints_len {ns : List Int} : ((intsD ns).map En.d).length = ns.length := by simp [intsD]
theorem takeM_lt {b : Box} {n : Int} (h : 0 < n) : 0 ≤ (takeM b n).1 ∧ (takeM b n).1 < n := by
  unfold takeM
  by_cases hb : 0 < b.1
  · rw [if_pos hb]; exact ⟨Int.emod_nonneg _ (by omega), Int.emod_lt_of_pos _ h⟩
  · rw [if_neg hb]; exact ⟨Int.emod_nonneg _ (by omega), Int.emod_lt_of_pos _ h⟩
theorem hsub {S : List Cl} {a b : Nat} (h : a ≤ b) : S.all (Cl.lo a) = true → S.all (Cl.lo b) = true := fun hs => List.all_eq_true.mpr fun c hc => by
  have go : ∀ e : En, e.lo a = true → e.lo b = true := fun e he => by
    cases e with
    | d x => rfl
    | p i => exact decide_eq_true (Nat.lt_of_lt_of_le (of_decide_eq_true he) h)
  have z := List.all_eq_true.mp hs c hc
  cases c with
  | gone => rfl
  | lst es => exact List.all_eq_true.mpr fun e he => go e (List.all_eq_true.mp z e he)
  | ins C fs => exact List.all_eq_true.mpr fun e he => go e.2 (List.all_eq_true.mp z e he)
  | ext R es => exact List.all_eq_true.mpr fun e he => go e (List.all_eq_true.mp z e he)
theorem get_last {S : List Cl} {c : Cl} : (S ++ [c])[S.length]? = some c := by simp
theorem Fin.last {S S0 T0 : List Cl} {xs : List En} (hl : S0.length = S.length) (hx : xs.all (En.lo S.length) = true) (hs : S.all (Cl.lo S.length) = true → S0.all (Cl.lo S.length) = true) :
    Fin S (.rt (.p (S0 ++ T0).length) ((S0 ++ T0) ++ [.lst xs])) (.p S0.length) (S0 ++ [.lst xs]) := by
  have := Fin.fresh (S := S) (S0 := S0) (T := T0 ++ [.lst xs]) (j := T0.length) (xs := xs) hl (by simp) hx hs
  rw [List.length_append, List.append_assoc]; exact this
section
variable {P : Program} {w : World} {K : PySem.W.Frag} {mg : Str → Option Value} {base : Heap}
theorem ok_box {f : Addr} {fd : FuncData} (F : L2.Fun K "_law_box" "_law_box" s_l_box f fd) (B : Nb mg) : FnOk P w K mg base L2.CX0 1 f fd ["_law_script", "_law_k"] (spOf K (C_box 7321 43)) := by
  refine fn_c F sc_l_box (fun args S e S' h => by obtain ⟨ns, k, rfl, _⟩ := h; rfl) fun cdv A outer s H E hr args S e S' h => ?_
  obtain ⟨ns, k, rfl, rfl, rfl⟩ := h
  let X := (cxOf L2.CX0 P w K mg base ["_law_script", "_law_k", "_law_cell", "_law_seed"] "_law_box" (defScope s_l_box) f cdv A outer s H E).nox
  have hif : DS X ((startG ["_law_script", "_law_k", "_law_cell", "_law_seed"] [.d (.list (intsD ns)), .d (.int k)]).set 2 (some (.d (.int (7321 * k + 43))))) S ((defBody s_l_box).getD 1 (.Pass ⟨0, 0, 0, 0⟩))
      (.nx ((startG ["_law_script", "_law_k", "_law_cell", "_law_seed"] [.d (.list (intsD ns)), .d (.int k)]).set 2 (some (.d (.int (cellM 7321 43 ns k))))) S) := by
    refine ds_if (dt_cmp op_lt rv_ib (dv 1 rfl) (de_len (B.of "len") (.l .d) (dv 0 rfl))) (fun hlt => ?_) (fun hge => ?_)
    · have hlt : k < ns.length := by simpa [intsD] using hlt
      have e : cellM 7321 43 ns k = iabs (ns.getD k 0) := by unfold cellM; rw [if_pos hlt]
      rw [e]
      exact db_one (ds_set (i := 2) (de_abs (B.of "abs") (de_ixL (.d) (ixN_nat (by rw [ints_len]; exact hlt)) (ints_get hlt) (dv 0 rfl) (dv 1 rfl))) sc_l_box.nd)
    · have hge : ¬ k < ns.length := by simpa [intsD] using hge
      refine db_one (ds_if (dt_cmp op_gt rv_ib (de_len (B.of "len") (.l .d) (dv 0 rfl)) de_int) (fun hp => ?_) (fun hz => ?_))
      · have hp : 0 < ns.length := by simpa [intsD] using hp
        have e : cellM 7321 43 ns k = 7321 * k + 43 + iabs (ns.getD (k % ns.length) 0) % 2147483629 * 69653 := by unfold cellM; rw [if_neg hge, if_pos hp]
        rw [e]
        have hm : k % ns.length < ns.length := Nat.mod_lt _ hp
        have e2 : (k : Int) % (((intsD ns).map En.d).length : Nat) = ((k % ns.length : Nat) : Int) := by rw [ints_len]; exact (Int.natCast_emod _ _).symm
        exact db_one (ds_set (i := 2) (de_bin op_add rv_ii (dv 2 rfl) (de_bin op_mul (rv_iC (.inr ⟨by decide, by decide⟩)) (de_bin op_mod (rv_iC (by decide)) (de_abs (B.of "abs")
          (de_ixL (.d) (by rw [e2]; exact ixN_nat (by rw [ints_len]; exact hm)) (ints_get hm) (dv 0 rfl) (de_bin op_mod (rv_iC (by rw [ints_len]; omega)) (dv 1 rfl) (de_len (B.of "len") (.l .d) (dv 0 rfl))))) de_int) de_int)) sc_l_box.nd)
      · have hz : ¬ 0 < ns.length := by simpa [intsD] using hz
        have e : cellM 7321 43 ns k = 7321 * k + 43 := by unfold cellM; rw [if_neg hge, if_neg hz]
        rw [e]
        exact db_nil
  refine ⟨_, db_cons (ds_set (i := 2) (de_bin op_add rv_ii (de_bin op_mul (rv_iC (.inl ⟨by decide, by decide⟩)) de_int (dv 1 rfl)) de_int) sc_l_box.nd)
    (db_cons hif (db_cons (ds_set (i := 3) (de_bin op_add rv_ii (de_bin op_mod (rv_iC (by decide)) (de_bin op_add rv_ii (de_bin op_mul (rv_iC (.inr ⟨by decide, by decide⟩)) (de_bin op_mod (rv_iC (by decide)) (dv 2 rfl) de_int) de_int)
        (de_bin op_mul (rv_iC (.inl ⟨by decide, by decide⟩)) de_int (dv 1 rfl))) de_int) de_int) sc_l_box.nd)
      (db_one (ds_ret (de_lst (da_cons (de_ixL (j := if (10 : Int) ^ 18 ≤ cellM 7321 43 ns k then 1 else 0) (e := .d (.int (boxM 7321 43 ns k).1)) (.c get_last) ?_ ?_ (de_lst (da_cons de_int (da_cons (dv 2 rfl) da_nil)) (Nat.le_of_ble_eq_true rfl))
          (de_intB (B.of "int") (de_cmp op_ge rv_ib (dv 2 rfl) (de_bin op_pow (rv_iC ⟨by decide, by decide, by decide⟩) de_int de_int)))) (da_cons (dv 3 rfl) (da_cons de_int da_nil))) (Nat.le_of_ble_eq_true rfl)))))), ?_⟩
  · by_cases hc : (10 : Int) ^ 18 ≤ cellM 7321 43 ns k
    · have hc' : decide ((10 : Int) ^ Int.toNat 18 ≤ cellM 7321 43 ns k) = true := decide_eq_true hc
      rw [if_pos hc, if_pos hc']; rfl
    · have hc' : ¬ decide ((10 : Int) ^ Int.toNat 18 ≤ cellM 7321 43 ns k) = true := fun h => hc (of_decide_eq_true h)
      rw [if_neg hc, if_neg hc']; rfl
  · show _ = some (En.d (.int (if (10 : Int) ^ 18 ≤ cellM 7321 43 ns k then cellM 7321 43 ns k else 0)))
    by_cases hc : (10 : Int) ^ 18 ≤ cellM 7321 43 ns k
    · rw [if_pos hc, if_pos hc]; rfl
    · rw [if_neg hc, if_neg hc]; rfl
  · exact Fin.last rfl rfl id
end
end AF

set_option Elab.async false
set_option linter.all false
set_option maxRecDepth 100000
set_option maxHeartbeats 4000000
namespace AF
open PySem PySem.Spec PyProof.Rows L2
theorem get_app {S T : List Cl} {i : Nat} {c : Cl} (h : S[i]? = some c) : (S ++ T)[i]? = some c := by
  rw [List.getElem?_append_left (List.getElem?_eq_some_iff.mp h).1]; exact h
theorem get_at {S T : List Cl} {j : Nat} : (S ++ T)[S.length + j]? = T[j]? := by
  rw [List.getElem?_append_right (Nat.le_add_right _ _), Nat.add_sub_cancel_left]
theorem set_app {S T : List Cl} {i : Nat} {c : Cl} (h : i < S.length) : (S ++ T).set i c = S.set i c ++ T := List.set_append_left _ _ h
theorem set_at {S T : List Cl} {j : Nat} {c : Cl} : (S ++ T).set (S.length + j) c = S ++ T.set j c := by
  rw [List.set_append_right _ _ (Nat.le_add_right _ _), Nat.add_sub_cancel_left]
theorem len_of {S : List Cl} {i : Nat} {c : Cl} (h : S[i]? = some c) : i < S.length := (List.getElem?_eq_some_iff.mp h).1
section
variable {X : Cx} {G : Gm} {S S1 S2 : List Cl} {a : Expr} {e e' : En} {es : List Expr} {ys : List En}
theorem de_to (h : DE X G S a e S1) (he : e = e') (hs : S1 = S2) : DE X G S a e' S2 := by subst he; subst hs; exact h
theorem da_to {ys' : List En} (h : DA X G S es ys S1) (he : ys = ys') (hs : S1 = S2) : DA X G S es ys' S2 := by subst he; subst hs; exact h
theorem dt_to {t u : Bool} (h : DT X G S a t S1) (he : t = u) (hs : S1 = S2) : DT X G S a u S2 := by subst he; subst hs; exact h
theorem di_to {tg iter : Expr} {xs xs' : List En} (h : DI X G S tg iter xs S1) (he : xs = xs') (hs : S1 = S2) : DI X G S tg iter xs' S2 := by subst he; subst hs; exact h
theorem ds_to {st : Stmt} {o o' : Out} (h : DS X G S st o) (he : o = o') : DS X G S st o' := by subst he; exact h
end
def mixS (b : Box) (ds : List PyData) : Nat → List PyData × List PyData × Box
  | 0 => (ds, [], b)
  | t + 1 =>
    let s := mixS b ds t
    let r := takeM s.2.2 (s.1.length : Int)
    (s.1.eraseIdx r.1.toNat, s.2.1 ++ [s.1.getD r.1.toNat .none], r.2)
def mixM (b : Box) (ds : List PyData) : List PyData × Box := ((mixS b ds ds.length).2.1, (mixS b ds ds.length).2.2)
theorem mixS_len (b : Box) (ds : List PyData) : ∀ t, t ≤ ds.length → (mixS b ds t).1.length = ds.length - t ∧ (mixS b ds t).2.1.length = t
  | 0, _ => by simp [mixS]
  | t + 1, h => by
    obtain ⟨h1, h2⟩ := mixS_len b ds t (by omega)
    have hr := takeM_lt (b := (mixS b ds t).2.2) (n := ((mixS b ds t).1.length : Int)) (by omega)
    have hlt : (takeM (mixS b ds t).2.2 ((mixS b ds t).1.length : Int)).1.toNat < (mixS b ds t).1.length := by omega
    simp only [mixS]
    rw [List.length_eraseIdx_of_lt hlt, List.length_append, h1, h2]
    exact ⟨by omega, rfl⟩
theorem eraseIdx_mapd : ∀ (l : List PyData) (n : Nat), (l.eraseIdx n).map En.d = (l.map En.d).eraseIdx n
  | [], _ => by simp
  | _ :: _, 0 => by simp
  | a :: l, n + 1 => by simp [eraseIdx_mapd l n]
def C_mixed : Ct := fun args S e S' => ∃ (i : Nat) (b : Box) (x : En) (ds : List PyData), args = [.p i, x] ∧ S[i]? = some (boxC b) ∧ IsSq S x (ds.map .d) ∧ ds.length ≤ 1000 ∧
  e = .p S.length ∧ S' = S.set i (boxC (mixM b ds).2) ++ [.lst ((mixM b ds).1.map .d)]
theorem seq_nat {n : Nat} {i : Int} (h0 : 0 ≤ i) (h : i < n) : seqIndex? i n = some i.toNat := (ixN_seq (ixN_int h0 h)).1
theorem lo_d {n : Nat} (ds : List PyData) : (ds.map En.d).all (En.lo n) = true := by
  rw [List.all_map]; exact List.all_eq_true.mpr fun _ _ => rfl
section
variable {P : Program} {w : World} {K : PySem.W.Frag} {mg : Str → Option Value} {base : Heap}
theorem ok_mixed {f : Addr} {fd : FuncData} (F : L2.Fun K "_law_mixed" "_law_mixed" s_l_mixed f fd) (B : Nb mg) (Dt : Df P w K mg base 1 "_law_take" [] C_take) : FnOk P w K mg base L2.CX0 2 f fd ["_law_box_here", "_law_items"] (spOf K C_mixed) := by
  refine fn_c F sc_l_mixed (fun args S e S' h => by obtain ⟨i, b, x, ds, rfl, _⟩ := h; rfl) fun cdv A outer s H E hr args S e S' h => ?_
  obtain ⟨i, b, x, ds, rfl, hS, hx, hl, rfl, rfl⟩ := h
  have hi := len_of hS
  let N : List Str := ["_law_box_here", "_law_items", "_law_left", "_law_found", "_law_turn"]
  let G0 : Gm := ((startG N [.p i, x]).set 2 (some (.p S.length))).set 3 (some (.p (S.length + 1)))
  let Ss : Nat → List Cl := fun t => S.set i (boxC (mixS b ds t).2.2) ++ [.lst ((mixS b ds t).1.map .d), .lst ((mixS b ds t).2.1.map .d)]
  have hxs : ∀ {S2 : List Cl}, (∃ T, S2 = S ++ T) → IsSq S2 x (ds.map .d) := fun {S2} hT => by
    obtain ⟨T, rfl⟩ := hT
    generalize hz : ds.map En.d = zs at hx ⊢
    cases hx with
    | l h =>
      cases h with
      | c h => exact .l (.c (get_app h))
      | d => exact .l .d
    | t => exact .t
  refine ⟨_, db_cons (ds_par (i := 2) (j := 3) (x := .p S.length) (y := .p (S.length + 1)) (S1 := Ss 0) (da_to (da_cons (de_list (B.of "list") hx (dv 1 rfl)) (da_cons (de_lst da_nil (Nat.zero_le _)) da_nil)) (by simp) ?_) rfl sc_l_mixed.nd)
    (db_cons (ds_for (xs := rangeE 0 ds.length) (S1 := Ss 0) (g := gName 4) (ix := [4]) (f := fun e G => G.set 4 (some e)) (fun _ => G0) Ss PassesOwn.never rfl ?_ (pg_name (i := 4) sc_l_mixed.nd rfl (Or.inl rfl)) (fun e _ => tg_name) (Le.refl _) rfl ?_)
    (db_one (ds_ret (dv 3 rfl)))), ?_⟩
  · have e0 : S.set i (boxC b) = S := by
      apply List.ext_getElem?
      intro j
      by_cases hj : i = j
      · subst hj; rw [List.getElem?_set_self hi, hS]
      · rw [List.getElem?_set_ne hj]
    show (S ++ [Cl.lst (ds.map .d)]) ++ [Cl.lst []] = S.set i (boxC b) ++ [.lst (ds.map .d), .lst ([].map .d)]
    rw [e0]; simp
  · have e1 : (Ss 0)[S.length]? = some (.lst (ds.map .d)) := by
      have := get_at (S := S.set i (boxC (mixS b ds 0).2.2)) (T := [.lst ((mixS b ds 0).1.map .d), .lst ((mixS b ds 0).2.1.map .d)]) (j := 0)
      rw [len_set] at this
      exact this
    exact di_to (di_range1 (n := (ds.length : Int)) (B.of "range") (by omega) (de_to (de_len (B.of "len") (.l (.c e1)) (dv 2 rfl)) (by simp) rfl)) (by rw [Int.toNat_natCast]) rfl
  · intro t e he
    have ht : t < ds.length := by
      have := (List.getElem?_eq_some_iff.mp he).1
      rwa [rangeE_length] at this
    obtain ⟨l1, l2⟩ := mixS_len b ds t (by omega)
    generalize hs : mixS b ds t = s at l1 l2
    generalize hrr : takeM s.2.2 (s.1.length : Int) = r
    have hr0 := takeM_lt (b := s.2.2) (n := (s.1.length : Int)) (by omega)
    rw [hrr] at hr0
    have hj : r.1.toNat < s.1.length := by omega
    have q0 : (Ss t)[i]? = some (boxC s.2.2) := by
      show (S.set i (boxC (mixS b ds t).2.2) ++ _)[i]? = _
      rw [hs]; exact get_app (get_set hS)
    have q1 : ∀ {c : Cl} {u v : Cl}, (S.set i c ++ [u, v])[S.length]? = some u := fun {c u v} => by
      have := get_at (S := S.set i c) (T := [u, v]) (j := 0)
      rw [len_set] at this; exact this
    have q2 : ∀ {c : Cl} {u v : Cl}, (S.set i c ++ [u, v])[S.length + 1]? = some v := fun {c u v} => by
      have := get_at (S := S.set i c) (T := [u, v]) (j := 1)
      rw [len_set] at this; exact this
    have z0 : (Ss t) = S.set i (boxC s.2.2) ++ [Cl.lst (s.1.map .d), Cl.lst (s.2.1.map .d)] := by
      show S.set i (boxC (mixS b ds t).2.2) ++ [Cl.lst ((mixS b ds t).1.map .d), Cl.lst ((mixS b ds t).2.1.map .d)] = _
      rw [hs]
    have z1 : (Ss t).set i (boxC r.2) = S.set i (boxC r.2) ++ [Cl.lst (s.1.map .d), Cl.lst (s.2.1.map .d)] := by
      rw [z0, set_app (by rw [len_set]; exact hi), List.set_set]
    have z2 : (S.set i (boxC r.2) ++ [Cl.lst (s.1.map .d), Cl.lst (s.2.1.map .d)]).set S.length (Cl.lst ((s.1.map En.d).eraseIdx r.1.toNat)) = S.set i (boxC r.2) ++ [Cl.lst ((s.1.eraseIdx r.1.toNat).map .d), Cl.lst (s.2.1.map .d)] := by
      have := set_at (S := S.set i (boxC r.2)) (T := [Cl.lst (s.1.map .d), Cl.lst (s.2.1.map .d)]) (j := 0) (c := .lst ((s.1.map En.d).eraseIdx r.1.toNat))
      rw [len_set] at this
      rw [Nat.add_zero] at this
      rw [this, ← eraseIdx_mapd]; rfl
    have z3 : (S.set i (boxC r.2) ++ [Cl.lst ((s.1.eraseIdx r.1.toNat).map .d), Cl.lst (s.2.1.map .d)]).set (S.length + 1) (Cl.lst (s.2.1.map .d ++ [.d s.1[r.1.toNat]])) = Ss (t + 1) := by
      have := set_at (S := S.set i (boxC r.2)) (T := [Cl.lst ((s.1.eraseIdx r.1.toNat).map .d), Cl.lst (s.2.1.map .d)]) (j := 1) (c := .lst (s.2.1.map .d ++ [.d s.1[r.1.toNat]]))
      rw [len_set] at this
      rw [this]
      show _ = S.set i (boxC (mixS b ds (t + 1)).2.2) ++ [Cl.lst ((mixS b ds (t + 1)).1.map .d), Cl.lst ((mixS b ds (t + 1)).2.1.map .d)]
      simp only [mixS]
      rw [hs, hrr]
      simp [hj]
    refine ⟨_, db_one (ds_to (ds_expr (de_to (de_append (i := S.length + 1) (x := .d s.1[r.1.toNat]) q2 (by rw [List.length_map, l2]; omega) (dv 3 rfl) ⟨_, by rw [z0]; exact q2⟩
      (de_to (de_popAt (i := S.length) (n := r.1) (j := r.1.toNat) (e := .d s.1[r.1.toNat]) q1 (by omega) (by rw [List.length_map]; exact seq_nat hr0.1 hr0.2) (by simp [hj]) (dv 2 rfl) ⟨_, by rw [z0]; exact q1⟩
        (de_to (de_call (C := C_take) Dt hr (Nat.le_refl _) ⟨i, s.2.2, (s.1.length : Int), rfl, q0, by omega, by omega, rfl, rfl⟩ (da_cons (dv 0 rfl) (da_cons (de_to (de_len (B.of "len") (.l (.c (by rw [z0]; exact q1))) (dv 2 rfl)) (by simp) rfl) da_nil))) (by rw [hrr]) (by rw [hrr]; exact z1)))
        rfl z2)) rfl z3)) rfl), Tn.nx (le_set rfl)⟩
  · rw [rangeE_length]
    have e2 : Ss ds.length = (S.set i (boxC (mixM b ds).2) ++ [Cl.lst ((mixS b ds ds.length).1.map .d)]) ++ [Cl.lst ((mixM b ds).1.map .d)] := by
      show S.set i (boxC (mixS b ds ds.length).2.2) ++ [Cl.lst ((mixS b ds ds.length).1.map .d), Cl.lst ((mixS b ds ds.length).2.1.map .d)] = _
      simp [mixM]
    rw [e2]
    have h := Fin.last (S := S) (S0 := S.set i (boxC (mixM b ds).2)) (T0 := [Cl.lst ((mixS b ds ds.length).1.map .d)]) (xs := (mixM b ds).1.map .d) len_set (lo_d _) (fun h => lo_set h rfl)
    rw [List.length_append, len_set] at h
    exact h
end
end AF

set_option Elab.async false
set_option linter.all false
set_option maxRecDepth 100000
set_option maxHeartbeats 4000000
namespace AF
open PySem PySem.Spec PyProof.Rows L2
/-! ### a text times 0 or 1 -/
def rMulS : R2 := fun x y H Q => ∃ s n, x = .str s ∧ y = .int n ∧ (n = 0 ∨ n = 1) ∧ Q (.str (if n = 0 then Str.empty else s)) H
theorem op_mulS {X : Cx} : OpR X (binaryOp .Mult) rMulS := by
  intro pins s σ H x y v u Q I rx ry h
  obtain ⟨t, n, rfl, rfl, hn, q⟩ := h
  obtain ⟨k1, rfl⟩ := rx
  obtain ⟨k2, rfl⟩ := ry
  rcases hn with rfl | rfl
  · refine PySem.P.mul_str_none (by omega) (by omega) ⟨.str Str.empty, H, I.tok _, ⟨_, rfl⟩, q⟩
  · refine PySem.P.mul_str (by decide) (fun _ h => absurd h (by simp)) (fun _ h => absurd h (by simp)) ?_
    rw [if_neg (by decide), if_pos (by simp)]
    exact ⟨.str t, H, I, ⟨_, rfl⟩, q⟩
theorem rv_mulS {K : Fg} {S : List Cl} {a : Str} {n : Int} (h : n = 0 ∨ n = 1) : RV2 K rMulS S (.d (.str a)) (.d (.int n)) (.d (.str (if n = 0 then Str.empty else a))) S := fun Hi H al v u Q w rv ru k => by
  cases rv; cases ru
  exact ⟨a, n, rfl, rfl, h, k _ _ _ _ (Nx.refl w) w (.str _)⟩
/-! ### draws in a row -/
def drawsM (b : Box) (m : Int) : Nat → List Int × Box
  | 0 => ([], b)
  | t + 1 => ((drawsM b m t).1 ++ [(takeM (drawsM b m t).2 m).1], (takeM (drawsM b m t).2 m).2)
theorem drawsM_len (b : Box) (m : Int) : ∀ n, (drawsM b m n).1.length = n
  | 0 => rfl
  | n + 1 => by simp [drawsM, drawsM_len b m n]
theorem drawsM_lt {b : Box} {m : Int} (hm : 0 < m) : ∀ n, ∀ x ∈ (drawsM b m n).1, 0 ≤ x ∧ x < m
  | 0, x, h => by cases h
  | n + 1, x, h => by
    rcases List.mem_append.mp h with z | z
    · exact drawsM_lt hm n x z
    · rw [List.mem_singleton.mp z]; exact takeM_lt hm
theorem set_self {S : List Cl} {i : Nat} {c : Cl} (h : S[i]? = some c) : S.set i c = S := by
  apply List.ext_getElem?
  intro j
  by_cases hj : i = j
  · subst hj; rw [List.getElem?_set_self (len_of h), h]
  · rw [List.getElem?_set_ne hj]
theorem picks_draws {b : Box} {m : Int} {h : Int → PyData} : ∀ n, picks (fun _ => true) (fun t => .d (h (takeM (drawsM b m t).2 m).1)) n = (drawsM b m n).1.map fun r => .d (h r)
  | 0 => rfl
  | n + 1 => by
    rw [picks, picks_draws n]
    simp [drawsM]
section
variable {X : Cx} {G : Gm} {S S1 : List Cl} {elt iter tg : Expr} {pos : Pos} {xs : List En}
/-- [elt for _ in range(n)], a draw in each turn -/
theorem lc_draw {scope : Scope} {own : List (Str × Nat)} {g : TG} {ix : List Nat} {f : En → Gm → Gm} {i : Nat} {b : Box} {m : Int} {n : Nat} (h : Int → PyData) (hS : S1[i]? = some (boxC b)) (hc : X.calm = true) (hN : X.N.Nodup) (hi : DI X G S tg iter (rangeE 0 n) S1) (ok : BlkOk X.N X.env.scope scope own)
    (hg : ∀ (s : Shared) (H : Hp) (C : Addr) (cl : List (Str × Addr)) (fp : List Addr), PG (X.blk s H scope (compEnvC scope cl C X.env) fp) tg g) (ht : ∀ e ∈ rangeE 0 n, TgR X.K g ix e (f e)) (hix : ∀ i ∈ ix, i ∈ own.map (·.2)) (hl : n ≤ 1000000)
    (he : ∀ (b' : Box) (e : En) (s : Shared) (H : Hp) (C : Addr) (cl : List (Str × Addr)) (fp : List Addr), DE (X.blk s H scope (compEnvC scope cl C X.env) fp) (f e (wipeG G (own.map (·.2)))) (S1.set i (boxC b')) elt (.d (h (takeM b' m).1)) (S1.set i (boxC (takeM b' m).2)))
    (hs : ∀ x, foldedSetIterable iter X.env x = pure x := by intro _; rfl) : LC X G S (.ListComp elt [⟨tg, iter, [], 0⟩] scope pos) (.p S1.length) (S1.set i (boxC (drawsM b m n).2) ++ [.lst ((drawsM b m n).1.map fun r => .d (h r))]) := by
  have z := lc_gen (pos := pos) (fun t => S1.set i (boxC (drawsM b m t).2)) (fun t => S1.set i (boxC (drawsM b m t).2)) (fun _ => true) (fun t => .d (h (takeM (drawsM b m t).2 m).1)) hc hN hi ok hg ht hix (by rw [rangeE_length]; exact hl) (set_self hS)
    (fun i e _ s H C cl fp => ⟨fun pins s σ H Q I ⟨Hi, al, w, sl, k⟩ => pts_nil.run pins s σ H Q I (k _ _ _ (Nx.refl w) w)⟩)
    (fun t e hx _ s H C cl fp => he (drawsM b m t).2 e s H C cl fp) (fun _ _ hb => nomatch hb) hs
  rw [rangeE_length, picks_draws] at z
  exact z.to (by simp) rfl
end
/-! ### names -/
def W19 : List Str := ["lay", "lift", "share", "empty", "hold", "group", "take", "pass", "try", "stop", "call", "slots", "undo", "found", "up", "trail", "left", "fate", "slot"]
def letterM (i : Int) : Str := ⟨#[97 + i.toNat]⟩
abbrev AZ : Str := "abcdefghijklmnopqrstuvwxyz"
theorem az_list : AZ.cps.toList = (List.range 26).map (97 + ·) := by decide +kernel
theorem az_get {i : Int} (h0 : 0 ≤ i) (h : i < 26) : atI AZ.cps.toList i = some (97 + i.toNat) := by
  unfold atI
  rw [az_list]
  have e : ixN ((List.range 26).map (97 + ·)).length i = some i.toNat := ixN_int h0 (by simpa using h)
  rw [e]
  show ((List.range 26).map (97 + ·))[i.toNat]? = _
  have : i.toNat < 26 := by omega
  simp [this]
def stemM (rs : List Int) : Str := Txt.join Str.empty (rs.map letterM)
def nm1 (stem : Str) (k : Int) : Str := cutS (cutS stem none (some 1) ++ "qvkzjx") none (some (k + 1))
def nm2 (stem : Str) (fi k : Int) : Str := cutS (stem ++ "qvkzj") none (some 5) ++ letterM ((fi + 7 * k) % 26)
def nm3 (stem : Str) (at_ fi k : Int) : Str := ((cutS stem none (some at_) ++ letterM ((fi + 7 * k) % 26)) ++ cutS stem (some at_) none) ++ (if k % 2 = 0 then Str.empty else letterM ((fi + 7 * k) % 26))
def ksM (n : Nat) : List Int := (List.range n).map fun (k : Nat) => (k : Int)
/-- the names ahead of the mixing, the box behind -/
def preM (b : Box) (many : Nat) : List Str × Box :=
  let f := takeM b 5
  if f.1 = 0 then (cutA (W19 ++ W19) (some (takeM f.2 19).1) (some ((takeM f.2 19).1 + many)), (takeM f.2 19).2) else
  let n := takeM f.2 5
  let d := drawsM n.2 26 n.1.toNat
  let stem := stemM d.1
  if f.1 = 1 ∧ many < 7 then ((ksM many).map (nm1 stem), d.2) else
  let a := takeM d.2 (stem.length + 1)
  let fi := takeM a.2 26
  if f.1 = 2 then ((ksM many).map (nm2 stem fi.1), fi.2) else ((ksM many).map (nm3 stem a.1 fi.1), fi.2)
def namesM (b : Box) (many : Nat) : List PyData × Box := mixM (preM b many).2 ((preM b many).1.map .str)
def C_names : Ct := fun args S e S' => ∃ (i : Nat) (b : Box) (many : Nat), args = [.p i, .d (.int many)] ∧ S[i]? = some (boxC b) ∧ many ≤ 12 ∧
  e = .p S.length ∧ S' = S.set i (boxC (namesM b many).2) ++ [.lst ((namesM b many).1.map .d)]
theorem stemM_len (rs : List Int) : (stemM rs).length = rs.length := by
  unfold stemM
  rw [TL.join_eq]
  induction rs with
  | nil => rfl
  | cons r rs ih =>
    cases rs with
    | nil => rfl
    | cons r2 rs =>
      show ((letterM r ++ Str.empty) ++ Str.join Str.empty ((r2 :: rs).map letterM)).cps.size = _
      have e : ∀ a b : Str, (a ++ b).cps = a.cps ++ b.cps := fun _ _ => rfl
      rw [e, e, Array.size_append, Array.size_append]
      have ih' : (Str.join Str.empty ((r2 :: rs).map letterM)).cps.size = (r2 :: rs).length := ih
      rw [ih']
      simp [letterM, Str.empty]
      omega
end AF

set_option Elab.async false
set_option linter.all false
set_option maxRecDepth 100000
set_option maxHeartbeats 4000000
namespace AF
open PySem PySem.Spec PyProof.Rows L2
section
variable {K : Fg} {S : List Cl}
theorem rv_eqI {i j : Int} : RV2 K rEq S (.d (.int i)) (.d (.int j)) (.d (.bool (decide (i = j)))) S := fun Hi H al v u Q w rv ru k => by
  cases rv; cases ru
  refine ⟨rfl, ?_⟩
  have e : decide (V.int i = V.int j) = decide (i = j) := by
    by_cases h : i = j
    · subst h; simp
    · rw [decide_eq_false h, decide_eq_false (fun z => h (V.int.inj z))]
  rw [e]
  exact k _ _ _ _ (Nx.refl w) w (.bl _)
theorem rv_neI {i j : Int} : RV2 K rNe S (.d (.int i)) (.d (.int j)) (.d (.bool (!decide (i = j)))) S := fun Hi H al v u Q w rv ru k => by
  cases rv; cases ru
  refine ⟨rfl, ?_⟩
  have e : decide (V.int i = V.int j) = decide (i = j) := by
    by_cases h : i = j
    · subst h; simp
    · rw [decide_eq_false h, decide_eq_false (fun z => h (V.int.inj z))]
  rw [e]
  exact k _ _ _ _ (Nx.refl w) w (.bl _)
end
section
variable {X : Cx} {G : Gm} {S S1 : List Cl} {bx a : Expr} {p pos : Pos} {i : Nat} {b : Box} {n : Int} {j : Nat} {x : En} {ds : List PyData}
theorem de_take (Dt : Df X.prog X.w X.K X.mg X.base 1 "_law_take" [] C_take) (hr : Room j X.A) (hj : 1 ≤ j) (hS : S1[i]? = some (boxC b)) (h0 : 0 < n) (h1 : n < 1073741824) (hbx : DE X G S bx (.p i) S) (ha : DE X G S a (.d (.int n)) S1) (hg : Gl X "_law_take" := by rfl)
    (he : starEach [bx, a] X.env = (false, eval bx X.env) :: starEach [a] X.env := by rfl) (he2 : starEach [a] X.env = (false, eval a X.env) :: starEach [] X.env := by rfl) (hpl : (backTo pos (starEach [a] X.env)).any (·.1) = false := by rfl) :
    DE X G S (.Call (.Name "_law_take" p) [bx, a] [] pos) (.d (.int (takeM b n).1)) (S1.set i (boxC (takeM b n).2)) :=
  de_call Dt hr hj ⟨i, b, n, rfl, hS, h0, h1, rfl, rfl⟩ (da_cons hbx (da_cons ha da_nil he2) he) hg (by decide) he hpl
theorem de_mixed (Dm : Df X.prog X.w X.K X.mg X.base 2 "_law_mixed" [] C_mixed) (hr : Room j X.A) (hj : 2 ≤ j) (hS : S1[i]? = some (boxC b)) (hx : IsSq S1 x (ds.map .d)) (hl : ds.length ≤ 1000) (hbx : DE X G S bx (.p i) S) (ha : DE X G S a x S1) (hg : Gl X "_law_mixed" := by rfl)
    (he : starEach [bx, a] X.env = (false, eval bx X.env) :: starEach [a] X.env := by rfl) (he2 : starEach [a] X.env = (false, eval a X.env) :: starEach [] X.env := by rfl) (hpl : (backTo pos (starEach [a] X.env)).any (·.1) = false := by rfl) :
    DE X G S (.Call (.Name "_law_mixed" p) [bx, a] [] pos) (.p S1.length) (S1.set i (boxC (mixM b ds).2) ++ [.lst ((mixM b ds).1.map .d)]) :=
  de_call Dm hr hj ⟨i, b, x, ds, rfl, hS, hx, hl, rfl, rfl⟩ (da_cons hbx (da_cons ha da_nil he2) he) hg (by decide) he hpl
end
theorem strs_map (l : List Str) : l.map (fun y => En.d (.str y)) = (l.map PyData.str).map En.d := by simp
/-- a mixed list is handed back -/
theorem Fin.mixed {S : List Cl} {i : Nat} {c : Cl} {T : List Cl} {xs : List En} {n : Nat} {St : List Cl} (hn : n = S.length + T.length) (hSt : St = (S.set i c ++ T) ++ [.lst xs]) (hc : c.lo S.length = true) (hx : xs.all (En.lo S.length) = true) :
    Fin S (.rt (.p n) St) (.p S.length) (S.set i c ++ [.lst xs]) := by
  have h := Fin.last (S := S) (S0 := S.set i c) (T0 := T) (xs := xs) len_set hx (fun h => lo_set h hc)
  rw [List.length_append, len_set] at h
  subst hn; subst hSt; exact h
theorem lo_re {S : List Cl} {i : Nat} {c c' : Cl} (hc : ∀ n, c'.lo n = true) : (S.set i c).all (Cl.lo (S.set i c).length) = true → (S.set i c').all (Cl.lo (S.set i c').length) = true := fun h => by
  have z := lo_set (i := i) (c := c') h (hc _)
  rw [List.set_set] at z
  rw [len_set] at z ⊢
  exact z
def onI (g : Int → PyData) : En → En
  | .d (.int k) => .d (g k)
  | e => e
theorem range_cases {n : Nat} {e : En} (h : e ∈ rangeE 0 n) : ∃ k : Nat, k < n ∧ e = .d (.int (k : Int)) := by
  unfold rangeE at h
  obtain ⟨k, hk, rfl⟩ := List.mem_map.mp h
  exact ⟨k, List.mem_range.mp hk, by simp⟩
theorem range_onI {n : Nat} {g : Int → PyData} : (rangeE 0 n).map (onI g) = ((ksM n).map g).map En.d := by
  unfold rangeE ksM
  rw [List.map_map, List.map_map, List.map_map]
  refine List.map_congr_left fun k _ => ?_
  show En.d (g (0 + (k : Int))) = En.d (g (k : Int))
  rw [Int.zero_add]
theorem cutS_len (z : Str) (lo hi : Option Int) : (cutS z lo hi).length ≤ z.length := by
  show (((z.cps.toList.drop _).take _).toArray).size ≤ z.cps.size
  rw [List.size_toArray, List.length_take, List.length_drop, Array.length_toList]
  omega
theorem app_len (a b : Str) : (a ++ b).length = a.length + b.length := by
  show (a.cps ++ b.cps).size = _
  rw [Array.size_append]; rfl
theorem sum_letters : ∀ l : List Int, ((l.map letterM).map (·.length)).sum = l.length
  | [] => rfl
  | a :: l => by
    rw [List.map_cons, List.map_cons, List.sum_cons, sum_letters l, List.length_cons]
    show (#[97 + a.toNat] : Array Nat).size + l.length = _
    rw [Nat.add_comm]; rfl
theorem line_of {n : Nat} (h : n ≤ 1000) : n ≤ sizeLine := Nat.le_trans h (by decide)
theorem get_at' {S T : List Cl} {i : Nat} {c c' : Cl} (h : T[0]? = some c') : (S.set i c ++ T)[S.length]? = some c' := by
  have := get_at (S := S.set i c) (T := T) (j := 0)
  rw [len_set] at this; rw [Nat.add_zero] at this; rw [this]; exact h
abbrev Nnm : List Str := ["_law_box_here", "_law_many", "_law_letters", "_law_form", "_law_words", "_law_first", "_law_stem", "_law_at", "_law_found", "_law_k", "_law_letter", "_law_turn"]
section
variable {P : Program} {w : World} {K : PySem.W.Frag} {mg : Str → Option Value} {base : Heap}
theorem ok_names {f : Addr} {fd : FuncData} (F : L2.Fun K "_law_names" "_law_names" s_l_names f fd) (B : Nb mg) (Dt : Df P w K mg base 1 "_law_take" [] C_take) (Dm : Df P w K mg base 2 "_law_mixed" [] C_mixed) : FnOk P w K mg base L2.CX0 3 f fd ["_law_box_here", "_law_many"] (spOf K C_names) := by
  refine fn_c F sc_l_names (fun args S e S' h => by obtain ⟨i, b, many, rfl, _⟩ := h; rfl) fun cdv A outer s H E hr args S e S' h => ?_
  obtain ⟨i, b, many, rfl, hS, hm, rfl, rfl⟩ := h
  have hi := len_of hS
  have gB0 : ∀ {b' : Box}, (S.set i (boxC b'))[i]? = some (boxC b') := fun {b'} => get_set hS
  have gB : ∀ {b' : Box} {T : List Cl}, (S.set i (boxC b') ++ T)[i]? = some (boxC b') := fun {b' T} => get_app gB0
  have sB : ∀ {b' : Box} {c : Cl} {T : List Cl}, (S.set i (boxC b') ++ T).set i c = S.set i c ++ T := fun {b' c T} => by
    rw [set_app (by rw [len_set]; exact hi), List.set_set]
  have sB0 : ∀ {b' : Box} {c : Cl}, (S.set i (boxC b')).set i c = S.set i c := fun {b' c} => List.set_set ..
  let X := (cxOf L2.CX0 P w K mg base Nnm "_law_names" (defScope s_l_names) f cdv A outer s H E).nox
  generalize hf : takeM b 5 = f0
  let G1 : Gm := ((startG Nnm [.p i, .d (.int many)]).set 2 (some (.d (.str AZ)))).set 3 (some (.d (.int f0.1)))
  have st0 : DS X (startG Nnm [.p i, .d (.int many)]) S ((defBody s_l_names).getD 0 (.Pass ⟨0, 0, 0, 0⟩)) (.nx G1 (S.set i (boxC f0.2))) :=
    ds_unp (pg_tup rfl (pgs_cons (pg_name (i := 2) sc_l_names.nd rfl (Or.inr rfl)) (pgs_cons (pg_name (i := 3) sc_l_names.nd rfl (Or.inl rfl)) pgs_nil))) (tg_tup2 tg_name tg_name)
      (de_tup (ds := [.str AZ, .int f0.1]) (da_cons de_str (da_cons (de_to (de_take Dt hr (by decide) hS (by decide) (by decide) (dv 0 rfl) de_int) (by rw [hf]) (by rw [hf])) da_nil)) (Nat.le_of_ble_eq_true rfl))
  by_cases h0 : f0.1 = 0
  · -- the package's words
    generalize hg : takeM f0.2 19 = g
    have hg2 := takeM_lt (b := f0.2) (n := 19) (by decide)
    rw [hg] at hg2
    have ep : preM b many = (cutA (W19 ++ W19) (some g.1) (some (g.1 + many)), g.2) := by
      unfold preM
      dsimp only
      rw [hf, if_pos h0, hg]
    have en : namesM b many = mixM g.2 ((cutA (W19 ++ W19) (some g.1) (some (g.1 + many))).map .str) := by unfold namesM; rw [ep]
    rw [en]
    let A12 : List En := [.d (.str "lay"), .d (.str "lift"), .d (.str "share"), .d (.str "empty"), .d (.str "hold"), .d (.str "group"), .d (.str "take"), .d (.str "pass"), .d (.str "try"), .d (.str "stop"), .d (.str "call"), .d (.str "slots")]
    let A7 : List En := [.d (.str "undo"), .d (.str "found"), .d (.str "up"), .d (.str "trail"), .d (.str "left"), .d (.str "fate"), .d (.str "slot")]
    let A19 : List En := W19.map fun y => .d (.str y)
    have e19 : A12 ++ A7 = A19 := rfl
    let ws : List Str := cutA (W19 ++ W19) (some g.1) (some (g.1 + many))
    have eW : cutA (A19 ++ A19) (some g.1) (some (g.1 + many)) = (ws.map PyData.str).map En.d := by
      rw [← strs_map]
      show cutA (W19.map (fun y => En.d (.str y)) ++ W19.map (fun y => En.d (.str y))) _ _ = _
      rw [← List.map_append, cutA_map]
    have g4 : ∀ {j : Nat} {T : List Cl} {c : Cl}, T[j]? = some c → ∀ {b' : Box}, (S.set i (boxC b') ++ T)[S.length + j]? = some c := fun {j T c} h {b'} => by
      have := get_at (S := S.set i (boxC b')) (T := T) (j := j)
      rw [len_set] at this; rw [this]; exact h
    have hlw : ws.length ≤ 1000 := by
      show (cutA (W19 ++ W19) (some g.1) (some (g.1 + many))).length ≤ 1000
      have : ∀ {A : Type} (l : List A) (a b : Option Int), (cutA l a b).length ≤ l.length := fun l a b => by unfold cutA; rw [List.length_take, List.length_drop]; omega
      exact Nat.le_trans (this _ _ _) (by decide)
    refine ⟨_, db_cons st0 (db_out (ds_if (dt_cmp op_eq rv_eqI (dv 3 rfl) de_int) (fun _ =>
      db_cons (ds_set (i := 4) (de_to (e' := .p (S.length + 0)) (S2 := S.set i (boxC f0.2) ++ [.lst A12]) (de_lst (da_cons de_str (da_cons de_str (da_cons de_str (da_cons de_str (da_cons de_str (da_cons de_str (da_cons de_str (da_cons de_str (da_cons de_str (da_cons de_str (da_cons de_str (da_cons de_str da_nil)))))))))))) (Nat.le_of_ble_eq_true rfl)) (by simp) rfl) sc_l_names.nd)
      (db_cons (ds_set (i := 4) (de_to (e' := .p (S.length + 2)) (S2 := S.set i (boxC f0.2) ++ [.lst A12, .lst A7, .lst A19]) (de_bin op_cat (rv_cat (S := S.set i (boxC f0.2) ++ [.lst A12, .lst A7]) (m := S.length + 0) (n := S.length + 1) (xs := A12) (ys := A7) (g4 rfl) (g4 rfl) (Nat.le_of_ble_eq_true rfl)) (dv 4 rfl)
          (de_to (e' := .p (S.length + 1)) (S2 := S.set i (boxC f0.2) ++ [.lst A12, .lst A7]) (de_lst (da_cons de_str (da_cons de_str (da_cons de_str (da_cons de_str (da_cons de_str (da_cons de_str (da_cons de_str da_nil))))))) (Nat.le_of_ble_eq_true rfl)) (by simp) (by simp [A7]))) (by simp) (by rw [e19]; simp)) sc_l_names.nd)
      (db_cons (ds_set (i := 5) (de_to (e' := .d (.int g.1)) (S2 := S.set i (boxC g.2) ++ [.lst A12, .lst A7, .lst A19]) (de_take Dt hr (by decide) gB (by decide) (by decide) (dv 0 rfl) de_int) (by rw [hg]) (by rw [hg, sB])) sc_l_names.nd)
      (db_one (ds_ret (de_mixed (S1 := S.set i (boxC g.2) ++ [.lst A12, .lst A7, .lst A19, .lst (A19 ++ A19), .lst ((ws.map PyData.str).map En.d)]) (x := .p (S.length + 4)) (ds := ws.map PyData.str) Dm hr (by decide) gB (.l (.c (g4 rfl))) (by rw [List.length_map]; exact hlw) (dv 0 rfl)
        (de_to (e' := .p (S.length + 4)) (de_slL (xs := A19 ++ A19) (l := some g.1) (h := some (g.1 + many)) (S3 := S.set i (boxC g.2) ++ [.lst A12, .lst A7, .lst A19, .lst (A19 ++ A19)]) (x := .p (S.length + 3)) (.c (g4 rfl))
          (de_to (e' := .p (S.length + 3)) (S2 := S.set i (boxC g.2) ++ [.lst A12, .lst A7, .lst A19, .lst (A19 ++ A19)]) (de_bin op_cat (rv_cat (m := S.length + 2) (n := S.length + 2) (xs := A19) (ys := A19) (g4 rfl) (g4 rfl) (Nat.le_of_ble_eq_true rfl)) (dv 4 rfl) (dv 4 rfl)) (by simp) (by simp))
          (do_some (dv 5 rfl)) (do_some (de_bin op_add rv_ii (dv 5 rfl) (dv 1 rfl)))) (by simp) (by rw [eW]; simp))))))))
      (fun h => absurd h (by simp [h0]))) rfl), ?_⟩
    exact Fin.mixed (T := [.lst A12, .lst A7, .lst A19, .lst (A19 ++ A19), .lst ((ws.map PyData.str).map En.d)]) (by simp) (by rw [sB]) rfl (lo_d _)
  · generalize hn : takeM f0.2 5 = n0
    have hn2 := takeM_lt (b := f0.2) (n := 5) (by decide)
    rw [hn] at hn2
    generalize hd : drawsM n0.2 26 n0.1.toNat = d0
    have hdl : d0.1.length ≤ 4 := by rw [← hd, drawsM_len]; omega
    generalize hst : stemM d0.1 = stem
    have hsl : stem.length ≤ 4 := by rw [← hst, stemM_len]; exact hdl
    let G2 : Gm := G1.set 6 (some (.d (.str stem)))
    have st2 : DS X G1 (S.set i (boxC f0.2)) ((defBody s_l_names).getD 2 (.Pass ⟨0, 0, 0, 0⟩)) (.nx G2 (S.set i (boxC d0.2))) := by
      refine ds_set (i := 6) (de_drop (T := [.lst (d0.1.map fun r => .d (.str (letterM r)))]) (de_to (e' := .d (.str stem)) (de_join (t := Str.empty) (x := .p S.length) (zs := d0.1.map letterM) (S2 := S.set i (boxC d0.2) ++ [.lst (d0.1.map fun r => .d (.str (letterM r)))])
          (.l (.c (by rw [List.map_map]; exact get_at' rfl))) (by rw [sum_letters]; show _ + _ * 0 ≤ _; omega) de_str
        (de_to (e' := .p S.length) (S2 := S.set i (boxC d0.2) ++ [.lst (d0.1.map fun r => .d (.str (letterM r)))]) (LC.pe <| lc_draw (own := [("_law_turn", 11)]) (g := gName 11) (ix := [11]) (f := fun e G => G.set 11 (some e)) (b := n0.2) (m := 26) (n := n0.1.toNat) (S1 := S.set i (boxC n0.2)) (fun r => .str (letterM r)) gB0 rfl sc_l_names.nd
          (di_range1 (B.of "range") ⟨by omega, by omega⟩ (de_to (de_take Dt hr (by decide) gB0 (by decide) (by decide) (dv 0 rfl) de_int) (by rw [hn]) (by rw [hn, sB0])))
          (blkOk_by (own := [("_law_turn", 11)]) (N := Nnm) (sc := defScope s_l_names) (by decide +kernel)) (fun _ _ _ _ _ => pg_name (i := 11) sc_l_names.nd rfl (Or.inl rfl)) (fun e _ => tg_name) (by decide) (by omega)
          (fun b' e s H C cl fp => de_to (de_ixS (t := AZ) (by decide +kernel) (az_get (takeM_lt (by decide)).1 (takeM_lt (by decide)).2) (dv 2 rfl) (de_take Dt hr (by decide) (get_set gB0) (by decide) (by decide) (dv 0 rfl) de_int)) rfl (by rw [List.set_set]))) (by simp) (by rw [hd, sB0]))) (by rw [← hst]; rfl) rfl) rfl (lo_re (fun _ => rfl)) (by simp)) sc_l_names.nd
    have hsz : ∀ {z : Str}, z.length ≤ 100 → z.length ≤ sizeLine := fun h => line_of (by omega)
    have fin : ∀ (bb : Box) (ds : List PyData) (T : List Cl) (o : Out), preM b many = (ds.map (fun d => match d with | .str y => y | _ => Str.empty), bb) → (∀ d ∈ ds, ∃ y, d = .str y) → o = .rt (.p (S.length + T.length)) ((S.set i (boxC (mixM bb ds).2) ++ T) ++ [.lst ((mixM bb ds).1.map .d)]) →
        Fin S o (.p S.length) (S.set i (boxC (namesM b many).2) ++ [.lst ((namesM b many).1.map .d)]) := fun bb ds T o ep hd ho => by
      have e1 : (ds.map (fun d => match d with | .str y => y | _ => Str.empty)).map PyData.str = ds := by
        rw [List.map_map]
        conv => rhs; rw [← List.map_id ds]
        refine List.map_congr_left fun d h => ?_
        obtain ⟨y, rfl⟩ := hd d h
        rfl
      have en : namesM b many = mixM bb ds := by unfold namesM; rw [ep]; dsimp only; rw [e1]
      rw [en, ho]
      exact Fin.mixed rfl rfl rfl (lo_d _)
    have ktest : DT X G2 (S.set i (boxC d0.2)) (match (defBody s_l_names).getD 3 (.Pass ⟨0, 0, 0, 0⟩) with | .If c _ _ _ => c | _ => .Constant .none 0 ⟨0, 0, 0, 0⟩) (decide (f0.1 = 1) && decide ((many : Int) < 7)) (S.set i (boxC d0.2)) :=
      dt_w (dw_and (dt_cmp op_eq rv_eqI (dv 3 rfl) de_int) (fun _ => dw_and1 (dt_cmp op_lt rv_ib (dv 1 rfl) de_int)))
    by_cases h1 : f0.1 = 1 ∧ many < 7
    · -- beginnings of a row of letters
      have ep : preM b many = ((ksM many).map (nm1 stem), d0.2) := by
        unfold preM
        dsimp only
        rw [hf, if_neg h0, hn, hd, hst, if_pos h1]
      let xs : List PyData := (ksM many).map fun k => .str (nm1 stem k)
      have hb : DE X G2 (S.set i (boxC d0.2)) (match (defBody s_l_names).getD 3 (.Pass ⟨0, 0, 0, 0⟩) with | .If _ [.Return (some e) _] _ _ => e | _ => .Constant .none 0 ⟨0, 0, 0, 0⟩) (.p (S.length + 1)) ((S.set i (boxC (mixM d0.2 xs).2) ++ [.lst (xs.map .d)]) ++ [.lst ((mixM d0.2 xs).1.map .d)]) := by
        refine de_to (de_mixed (S1 := S.set i (boxC d0.2) ++ [.lst (xs.map .d)]) (x := .p S.length) (ds := xs) Dm hr (by decide) gB (.l (.c (get_at' rfl))) (by simp [xs, ksM]; omega) (dv 0 rfl)
          (de_to (LC.pe <| lc_m (own := [("_law_k", 9)]) (g := gName 9) (ix := [9]) (f := fun e G => G.set 9 (some e)) (S1 := S.set i (boxC d0.2)) (onI fun k => .str (nm1 stem k)) rfl sc_l_names.nd (di_range1 (B.of "range") (by omega) (dv 1 rfl))
            (blkOk_by (own := [("_law_k", 9)]) (N := Nnm) (sc := defScope s_l_names) (by decide +kernel)) (fun _ _ _ _ _ => pg_name (i := 9) sc_l_names.nd rfl (Or.inl rfl)) (fun e _ => tg_name) (by decide) (by rw [rangeE_length]; omega)
            (fun e he s H C cl fp => by
              rw [Int.toNat_natCast] at he
              obtain ⟨k, hk, rfl⟩ := range_cases he
              exact de_slS (hsz (by rw [app_len]; have := cutS_len stem none (some 1); have e6 : (("qvkzjx" : Str)).length = 6 := by decide +kernel
                                    omega)) (de_bin op_add_str (rv_sadd (line_of (by have := cutS_len stem none (some 1); have e6 : (("qvkzjx" : Str)).length = 6 := by decide +kernel
                                                                                     omega))) (de_slS (hsz (by omega)) (dv 6 rfl) do_none (do_some de_int)) de_str) do_none (do_some (de_bin op_add rv_ii (dv 9 rfl) de_int)))) (by simp) (by rw [Int.toNat_natCast, range_onI])))
          (by simp) (by rw [sB])
      refine ⟨_, db_cons st0 (db_cons (ds_if (dt_cmp op_eq rv_eqI (dv 3 rfl) de_int) (fun h => absurd h (by simp [h0])) (fun _ => db_nil)) (db_cons st2 (db_out (ds_if ktest (fun _ => db_one (ds_ret hb)) (fun h => absurd h (by simp [h1.1]; omega))) rfl))), fin d0.2 xs [.lst (xs.map .d)] _ ?_ (fun d hd => ?_) rfl⟩
      · rw [ep, List.map_map]; rfl
      · obtain ⟨k, _, rfl⟩ := List.mem_map.mp hd
        exact ⟨_, rfl⟩
    · generalize ha : takeM d0.2 ((stem.length : Int) + 1) = a0
      have ha2 := takeM_lt (b := d0.2) (n := (stem.length : Int) + 1) (by omega)
      rw [ha] at ha2
      generalize hfi : takeM a0.2 26 = fi
      have hfi2 := takeM_lt (b := a0.2) (n := 26) (by decide)
      rw [hfi] at hfi2
      let G3 : Gm := (G2.set 7 (some (.d (.int a0.1)))).set 5 (some (.d (.int fi.1)))
      have hkt : (decide (f0.1 = 1) && decide ((many : Int) < 7)) = false := by
        rw [Bool.and_eq_false_iff]
        by_cases hq : f0.1 = 1
        · exact .inr (by simp; omega)
        · exact .inl (by simp [hq])
      have st3 : DS X G2 (S.set i (boxC d0.2)) ((defBody s_l_names).getD 3 (.Pass ⟨0, 0, 0, 0⟩)) (.nx G2 (S.set i (boxC d0.2))) :=
        ds_if ktest (fun h => absurd h (by rw [hkt]; decide)) (fun _ => db_nil)
      have st4 : DS X G2 (S.set i (boxC d0.2)) ((defBody s_l_names).getD 4 (.Pass ⟨0, 0, 0, 0⟩)) (.nx G3 (S.set i (boxC fi.2))) :=
        ds_unp (pg_tup rfl (pgs_cons (pg_name (i := 7) sc_l_names.nd rfl (Or.inl rfl)) (pgs_cons (pg_name (i := 5) sc_l_names.nd rfl (Or.inr rfl)) pgs_nil))) (tg_tup2 tg_name tg_name)
          (de_tup (ds := [.int a0.1, .int fi.1]) (da_cons (de_to (S2 := S.set i (boxC a0.2)) (de_take (b := d0.2) (n := (stem.length : Int) + 1) Dt hr (by decide) gB0 (by omega) (by omega) (dv 0 rfl) (de_bin op_add rv_ii (de_lenS (B.of "len") (hsz (by omega)) (dv 6 rfl)) de_int)) (by rw [ha]) (by rw [ha, sB0]))
            (da_cons (de_to (S2 := S.set i (boxC fi.2)) (de_take Dt hr (by decide) gB0 (by decide) (by decide) (dv 0 rfl) de_int) (by rw [hfi]) (by rw [hfi, sB0])) da_nil)) (Nat.le_of_ble_eq_true rfl))
      have hix : ∀ k : Nat, 0 ≤ (fi.1 + 7 * (k : Int)) % 26 ∧ (fi.1 + 7 * (k : Int)) % 26 < 26 := fun k => ⟨Int.emod_nonneg _ (by decide), Int.emod_lt_of_pos _ (by decide)⟩
      have l1 : ∀ j : Int, (letterM j).length = 1 := fun _ => rfl
      by_cases h2 : f0.1 = 2
      · have ep : preM b many = ((ksM many).map (nm2 stem fi.1), fi.2) := by
          unfold preM
          dsimp only
          rw [hf, if_neg h0, hn, hd, hst, if_neg h1, ha, hfi, if_pos h2]
        let xs : List PyData := (ksM many).map fun k => .str (nm2 stem fi.1 k)
        have e5 : (("qvkzj" : Str)).length = 5 := by decide +kernel
        have hb : DE X G3 (S.set i (boxC fi.2)) (match (defBody s_l_names).getD 5 (.Pass ⟨0, 0, 0, 0⟩) with | .If _ [.Return (some e) _] _ _ => e | _ => .Constant .none 0 ⟨0, 0, 0, 0⟩) (.p (S.length + 1)) ((S.set i (boxC (mixM fi.2 xs).2) ++ [.lst (xs.map .d)]) ++ [.lst ((mixM fi.2 xs).1.map .d)]) := by
          refine de_to (de_mixed (S1 := S.set i (boxC fi.2) ++ [.lst (xs.map .d)]) (x := .p S.length) (ds := xs) Dm hr (by decide) gB (.l (.c (get_at' rfl))) (by simp [xs, ksM]; omega) (dv 0 rfl)
            (de_to (LC.pe <| lc_m (own := [("_law_k", 9)]) (g := gName 9) (ix := [9]) (f := fun e G => G.set 9 (some e)) (S1 := S.set i (boxC fi.2)) (onI fun k => .str (nm2 stem fi.1 k)) rfl sc_l_names.nd (di_range1 (B.of "range") (by omega) (dv 1 rfl))
              (blkOk_by (own := [("_law_k", 9)]) (N := Nnm) (sc := defScope s_l_names) (by decide +kernel)) (fun _ _ _ _ _ => pg_name (i := 9) sc_l_names.nd rfl (Or.inl rfl)) (fun e _ => tg_name) (by decide) (by rw [rangeE_length]; omega)
              (fun e he s H C cl fp => by
                rw [Int.toNat_natCast] at he
                obtain ⟨k, hk, rfl⟩ := range_cases he
                exact de_bin op_add_str (rv_sadd (a := cutS (stem ++ "qvkzj") none (some 5)) (b := letterM ((fi.1 + 7 * (k : Int)) % 26)) (line_of (by have := cutS_len (stem ++ "qvkzj") none (some 5); rw [app_len] at this; rw [l1]; omega)))
                  (de_slS (hsz (by rw [app_len]; omega)) (de_bin op_add_str (rv_sadd (line_of (by omega))) (dv 6 rfl) de_str) do_none (do_some de_int))
                  (de_ixS (t := AZ) (by decide +kernel) (az_get (hix k).1 (hix k).2) (dv 2 rfl) (de_bin op_mod (rv_iC (by decide)) (de_bin op_add rv_ii (dv 5 rfl) (de_bin op_mul (rv_iC (.inl ⟨by decide, by decide⟩)) de_int (dv 9 rfl))) de_int)))) (by simp) (by rw [Int.toNat_natCast, range_onI])))
            (by simp) (by rw [sB])
        refine ⟨_, db_cons st0 (db_cons (ds_if (dt_cmp op_eq rv_eqI (dv 3 rfl) de_int) (fun h => absurd h (by simp [h0])) (fun _ => db_nil)) (db_cons st2 (db_cons st3 (db_cons st4 (db_out (ds_if (dt_cmp op_eq rv_eqI (dv 3 rfl) de_int) (fun _ => db_one (ds_ret hb)) (fun h => absurd h (by simp [h2]))) rfl))))), fin fi.2 xs [.lst (xs.map .d)] _ ?_ (fun d hd => ?_) rfl⟩
        · rw [ep, List.map_map]; rfl
        · obtain ⟨k, _, rfl⟩ := List.mem_map.mp hd
          exact ⟨_, rfl⟩
      · have ep : preM b many = ((ksM many).map (nm3 stem a0.1 fi.1), fi.2) := by
          unfold preM
          dsimp only
          rw [hf, if_neg h0, hn, hd, hst, if_neg h1, ha, hfi, if_neg h2]
        let xs : List PyData := (ksM many).map fun k => .str (nm3 stem a0.1 fi.1 k)
        let Ss : Nat → List Cl := fun t => S.set i (boxC fi.2) ++ [.lst (((ksM t).map fun k => .str (nm3 stem a0.1 fi.1 k)).map .d)]
        let G4 : Gm := G3.set 8 (some (.p S.length))
        have st6 : DS X G3 (S.set i (boxC fi.2)) ((defBody s_l_names).getD 6 (.Pass ⟨0, 0, 0, 0⟩)) (.nx G4 (Ss 0)) :=
          ds_set (i := 8) (de_to (de_lst da_nil (Nat.zero_le _)) (by simp) rfl) sc_l_names.nd
        have st7 : DS X G4 (Ss 0) ((defBody s_l_names).getD 7 (.Pass ⟨0, 0, 0, 0⟩)) (.nx G4 (Ss many)) := by
          have := ds_for (xs := rangeE 0 many) (S1 := Ss 0) (g := gName 9) (ix := [9]) (f := fun e G => G.set 9 (some e)) (fun _ => G4) Ss (X := X) (G := G4) (S := Ss 0) (tg := match (defBody s_l_names).getD 7 (.Pass ⟨0, 0, 0, 0⟩) with | .For t _ _ _ _ => t | _ => .Constant .none 0 ⟨0, 0, 0, 0⟩)
            (iter := match (defBody s_l_names).getD 7 (.Pass ⟨0, 0, 0, 0⟩) with | .For _ t _ _ _ => t | _ => .Constant .none 0 ⟨0, 0, 0, 0⟩) (body := match (defBody s_l_names).getD 7 (.Pass ⟨0, 0, 0, 0⟩) with | .For _ _ t _ _ => t | _ => [])
            (pos := match (defBody s_l_names).getD 7 (.Pass ⟨0, 0, 0, 0⟩) with | .For _ _ _ _ t => t | _ => ⟨0, 0, 0, 0⟩) PassesOwn.never rfl (di_to (di_range1 (n := (many : Int)) (B.of "range") (by omega) (dv 1 rfl)) (by rw [Int.toNat_natCast]) rfl)
            (pg_name (i := 9) sc_l_names.nd rfl (Or.inl rfl)) (fun e _ => tg_name) (Le.refl _) rfl (fun t e he => by
              have ht : t < many := by
                have := (List.getElem?_eq_some_iff.mp he).1
                rwa [rangeE_length] at this
              rw [rangeE_get ht] at he
              cases he
              have hst1 := cutS_len stem none (some a0.1)
              have hst2 := cutS_len stem (some a0.1) none
              have ek : (0 : Int) + (t : Int) = (t : Int) := by omega
              rw [ek]
              refine ⟨_, db_cons (ds_set (i := 10) (de_ixS (t := AZ) (by decide +kernel) (az_get (hix t).1 (hix t).2) (dv 2 rfl) (de_bin op_mod (rv_iC (by decide)) (de_bin op_add rv_ii (dv 5 rfl) (de_bin op_mul (rv_iC (.inl ⟨by decide, by decide⟩)) de_int (dv 9 rfl))) de_int)) sc_l_names.nd)
                (db_one (ds_to (ds_expr (de_to (de_append (i := S.length) (x := .d (.str (nm3 stem a0.1 fi.1 t))) (S2 := Ss t) (get_at' rfl) (by simp [ksM]; omega) (dv 8 rfl) ⟨_, get_at' rfl⟩
                  (de_bin op_add_str (rv_sadd (a := (cutS stem none (some a0.1) ++ letterM ((fi.1 + 7 * (t : Int)) % 26)) ++ cutS stem (some a0.1) none) (b := if (t : Int) % 2 = 0 then Str.empty else letterM ((fi.1 + 7 * (t : Int)) % 26)) (line_of (by
                      have : (if (t : Int) % 2 = 0 then Str.empty else letterM ((fi.1 + 7 * (t : Int)) % 26)).length ≤ 1 := by split; exact Nat.zero_le _; exact Nat.le_refl 1
                      rw [app_len, app_len, l1]; omega)))
                    (de_bin op_add_str (rv_sadd (a := cutS stem none (some a0.1) ++ letterM ((fi.1 + 7 * (t : Int)) % 26)) (b := cutS stem (some a0.1) none) (line_of (by rw [app_len, l1]; omega)))
                      (de_bin op_add_str (rv_sadd (a := cutS stem none (some a0.1)) (b := letterM ((fi.1 + 7 * (t : Int)) % 26)) (line_of (by rw [l1]; omega))) (de_slS (hsz (by omega)) (dv 6 rfl) do_none (do_some (dv 7 rfl))) (dv 10 rfl))
                      (de_slS (hsz (by omega)) (dv 6 rfl) (do_some (dv 7 rfl)) do_none))
                    (de_bin op_mulS (rv_mulS (by omega)) (dv 10 rfl) (de_bin op_mod (rv_iC (by decide)) (dv 9 rfl) de_int)))) rfl (S2 := Ss (t + 1)) ?_)) rfl)), Tn.nx ((le_set rfl).trans (le_set rfl))⟩
              · have := set_at (S := S.set i (boxC fi.2)) (T := [Cl.lst (((ksM t).map fun k => PyData.str (nm3 stem a0.1 fi.1 k)).map En.d)]) (j := 0) (c := Cl.lst (((ksM t).map fun k => PyData.str (nm3 stem a0.1 fi.1 k)).map En.d ++ [.d (.str (nm3 stem a0.1 fi.1 t))]))
                rw [len_set, Nat.add_zero] at this
                rw [this]
                show S.set i (boxC fi.2) ++ [_] = S.set i (boxC fi.2) ++ [_]
                congr 2
                simp [ksM, List.range_succ])
          rw [rangeE_length] at this
          exact this
        refine ⟨_, db_cons st0 (db_cons (ds_if (dt_cmp op_eq rv_eqI (dv 3 rfl) de_int) (fun h => absurd h (by simp [h0])) (fun _ => db_nil)) (db_cons st2 (db_cons st3 (db_cons st4 (db_cons (ds_if (dt_cmp op_eq rv_eqI (dv 3 rfl) de_int) (fun h => absurd h (by simp [h2])) (fun _ => db_nil)) (db_cons st6 (db_cons st7 (db_one (ds_ret
            (de_to (e' := .p (S.length + 1)) (S2 := (S.set i (boxC (mixM fi.2 xs).2) ++ [.lst (xs.map .d)]) ++ [.lst ((mixM fi.2 xs).1.map .d)]) (de_mixed (S1 := Ss many) (x := .p S.length) (ds := xs) Dm hr (by decide) gB (.l (.c (get_at' rfl))) (by simp [xs, ksM]; omega) (dv 0 rfl) (dv 8 rfl)) (by simp [Ss]) (by rw [sB]))))))))))), fin fi.2 xs [.lst (xs.map .d)] _ ?_ (fun d hd => ?_) rfl⟩
        · rw [ep, List.map_map]; rfl
        · obtain ⟨k, _, rfl⟩ := List.mem_map.mp hd
          exact ⟨_, rfl⟩
end
end AF

set_option Elab.async false
set_option linter.all false
set_option maxRecDepth 100000
set_option maxHeartbeats 4000000
namespace AF
open PySem PySem.Spec PyProof.Rows L2
abbrev strsD (l : List Str) : List PyData := l.map PyData.str
theorem IsL.strs {S : List Cl} {l : List Str} : IsL S (.d (.list (strsD l))) (l.map fun y => En.d (.str y)) := by rw [strs_map]; exact .d
theorem IsL.cells {S : List Cl} {i : Nat} {l : List Str} (h : S[i]? = some (.lst ((strsD l).map .d))) : IsL S (.p i) (l.map fun y => En.d (.str y)) := by rw [strs_map]; exact .c h
theorem IsL.app {S T : List Cl} {x : En} {xs : List En} (h : IsL S x xs) : IsL (S ++ T) x xs := by
  cases h with
  | c h => exact .c (get_app h)
  | d => exact .d
section
variable {X : Cx} {G : Gm} {S S1 : List Cl} {a b c : Expr} {pos : Pos} {x y z : En}
theorem ds_par3 {i j l : Nat} {n1 n2 n3 : Str} {px py pz pt : Pos} {kt k2 pt2} (ha : DA X G S [a, b, c] [x, y, z] S1) (hc : X.calm = true) (hN : X.N.Nodup) (hi : X.N[i]? = some n1 := by rfl) (hj : X.N[j]? = some n2 := by rfl) (hl : X.N[l]? = some n3 := by rfl) (hij : i ≠ j := by decide) (hil : i ≠ l := by decide) (hjl : j ≠ l := by decide)
    (hx : X.env.scope.names.lookup n1 = some .local := by rfl) (hy : X.env.scope.names.lookup n2 = some .local := by rfl) (hz : X.env.scope.names.lookup n3 = some .local := by rfl)
    (hw : swappedStores [.Tuple [.Name n1 px, .Name n2 py, .Name n3 pz] kt pt] (.Tuple [a, b, c] k2 pt2) X.env = pure (some [n1, n2, n3]) := by rfl)
    (hs : swapsWithSole [.Tuple [.Name n1 px, .Name n2 py, .Name n3 pz] kt pt] (.Tuple [a, b, c] k2 pt2) pos.line X.env = pure false := by rfl) :
    DS X G S (.Assign [.Tuple [.Name n1 px, .Name n2 py, .Name n3 pz] kt pt] (.Tuple [a, b, c] k2 pt2) pos) (.nx (((G.set i (some x)).set j (some y)).set l (some z)) S1) :=
  ps_wk (ps_par3 hc hN hi hj hl hij hil hjl hx hy hz ha hw hs) fun D σ H ⟨Hi, al, w, s, k⟩ => ⟨Hi, al, w, s, fun Hi1 H1 al1 vs n1 w1 r1 => by
    cases r1 with
    | cons r1 t =>
      cases t with
      | cons r2 t =>
        cases t with
        | cons r3 t => cases t; exact ⟨_, _, _, rfl, k _ _ _ n1 w1 _ ((((s.mono n1).set i r1).set j r2).set l r3)⟩⟩
end
def qS (q : Str → Bool) : En → Bool
  | .d (.str s) => q s
  | _ => false
def hS (h : Str → PyData) : En → En
  | .d (.str s) => .d (h s)
  | e => e
theorem filt_S (q : Str → Bool) (h : Str → PyData) : ∀ ss : List Str, ((ss.map fun y => En.d (.str y)).filter (qS q)).map (hS h) = ((ss.filter q).map h).map En.d
  | [] => rfl
  | a :: t => by
    have ih := filt_S q h t
    by_cases z : q a = true
    · have z2 : qS q (En.d (.str a)) = true := z
      rw [List.map_cons, List.filter_cons, if_pos z2, List.filter_cons, if_pos z, List.map_cons, ih]; rfl
    · have z2 : ¬ qS q (En.d (.str a)) = true := z
      rw [List.map_cons, List.filter_cons, if_neg z2, List.filter_cons, if_neg z, ih]
theorem map_S (h : Str → PyData) (ss : List Str) : (ss.map fun y => En.d (.str y)).map (hS h) = (ss.map h).map En.d := by
  rw [List.map_map, List.map_map]; rfl
section
variable {X : Cx} {G : Gm} {S S1 : List Cl} {elt iter tg : Expr} {pos : Pos} {ss : List Str}
theorem lc_fS {scope : Scope} {own : List (Str × Nat)} {test : Expr} {j : Nat} (q : Str → Bool) (h : Str → PyData) (hc : X.calm = true) (hN : X.N.Nodup) (hi : DI X G S tg iter ((strsD ss).map En.d) S1) (ok : BlkOk X.N X.env.scope scope own)
    (hg : ∀ (s : Shared) (H : Hp) (C : Addr) (cl : List (Str × Addr)) (fp : List Addr), PG (X.blk s H scope (compEnvC scope cl C X.env) fp) tg (gName j)) (hix : ∀ i ∈ [j], i ∈ own.map (·.2)) (hl : ss.length ≤ 1000000)
    (htt : ∀ (y : Str), y ∈ ss → ∀ (s : Shared) (H : Hp) (C : Addr) (cl : List (Str × Addr)) (fp : List Addr), DT (X.blk s H scope (compEnvC scope cl C X.env) fp) ((wipeG G (own.map (·.2))).set j (some (.d (.str y)))) S1 test (q y) S1)
    (he : ∀ (y : Str), y ∈ ss → q y = true → ∀ (s : Shared) (H : Hp) (C : Addr) (cl : List (Str × Addr)) (fp : List Addr), DE (X.blk s H scope (compEnvC scope cl C X.env) fp) ((wipeG G (own.map (·.2))).set j (some (.d (.str y)))) S1 elt (.d (h y)) S1)
    (hs : ∀ x, foldedSetIterable iter X.env x = pure x := by intro _; rfl) : LC X G S (.ListComp elt [⟨tg, iter, [test], 0⟩] scope pos) (.p S1.length) (S1 ++ [.lst (((ss.filter q).map h).map .d)]) := by
  rw [← strs_map] at hi
  have z := lc_f (pos := pos) (g := gName j) (ix := [j]) (f := fun e G => G.set j (some e)) (qS q) (hS h) hc hN hi ok hg (fun e _ => tg_name) hix (by rw [List.length_map]; exact hl)
    (fun e he' s H C cl fp => by obtain ⟨y, hy, rfl⟩ := List.mem_map.mp he'; exact htt y hy s H C cl fp)
    (fun e he' hq s H C cl fp => by obtain ⟨y, hy, rfl⟩ := List.mem_map.mp he'; exact he y hy hq s H C cl fp) hs
  rw [filt_S] at z
  exact z
theorem lc_mS {scope : Scope} {own : List (Str × Nat)} {j : Nat} (h : Str → PyData) (hc : X.calm = true) (hN : X.N.Nodup) (hi : DI X G S tg iter ((strsD ss).map En.d) S1) (ok : BlkOk X.N X.env.scope scope own)
    (hg : ∀ (s : Shared) (H : Hp) (C : Addr) (cl : List (Str × Addr)) (fp : List Addr), PG (X.blk s H scope (compEnvC scope cl C X.env) fp) tg (gName j)) (hix : ∀ i ∈ [j], i ∈ own.map (·.2)) (hl : ss.length ≤ 1000000)
    (he : ∀ (y : Str), y ∈ ss → ∀ (s : Shared) (H : Hp) (C : Addr) (cl : List (Str × Addr)) (fp : List Addr), DE (X.blk s H scope (compEnvC scope cl C X.env) fp) ((wipeG G (own.map (·.2))).set j (some (.d (.str y)))) S1 elt (.d (h y)) S1)
    (hs : ∀ x, foldedSetIterable iter X.env x = pure x := by intro _; rfl) : LC X G S (.ListComp elt [⟨tg, iter, [], 0⟩] scope pos) (.p S1.length) (S1 ++ [.lst ((ss.map h).map .d)]) := by
  rw [← strs_map] at hi
  have z := lc_m (pos := pos) (g := gName j) (ix := [j]) (f := fun e G => G.set j (some e)) (hS h) hc hN hi ok hg (fun e _ => tg_name) hix (by rw [List.length_map]; exact hl)
    (fun e he' s H C cl fp => by obtain ⟨y, hy, rfl⟩ := List.mem_map.mp he'; exact he y hy s H C cl fp) hs
  rw [map_S] at z
  exact z
end
/-! ### mirrors -/
def stretchM (ls : List Str) (m : Nat) : Bool := decide ls.Nodup && decide (ls.length < m)
def condM (ls : List Str) (m b e : Nat) : Bool := decide (e < ls.length) && stretchM ((ls.drop b).take (e + 1 - b)) m
def extM (ls : List Str) (m b : Nat) : Nat → Nat → Nat
  | 0, e => e
  | f + 1, e => if condM ls m b e = true then extM ls m b f (e + 1) else e
def cutsM (ls : List Str) (m : Nat) : Nat → Nat → List Nat
  | 0, _ => []
  | f + 1, b => if b < ls.length then extM ls m b (ls.length - (b + 1)) (b + 1) :: cutsM ls m f (extM ls m b (ls.length - (b + 1)) (b + 1)) else []
theorem extM_ge (ls : List Str) (m b : Nat) : ∀ f e, e ≤ extM ls m b f e
  | 0, e => Nat.le_refl _
  | f + 1, e => by
    unfold extM
    split
    · exact Nat.le_trans (Nat.le_succ e) (extM_ge ls m b f (e + 1))
    · exact Nat.le_refl _
theorem extM_le (ls : List Str) (m b : Nat) : ∀ f e, e ≤ ls.length → extM ls m b f e ≤ ls.length
  | 0, e, h => h
  | f + 1, e, h => by
    unfold extM
    split
    · rename_i hc
      unfold condM at hc
      rw [Bool.and_eq_true, decide_eq_true_eq] at hc
      exact extM_le ls m b f (e + 1) hc.1
    · exact h
theorem cutA_nat {A : Type} {l : List A} {b e : Nat} (hb : b ≤ l.length) (he : e ≤ l.length) : cutA l (some (b : Int)) (some (e : Int)) = (l.drop b).take (e - b) := by
  unfold cutA
  rw [HT.sIx_nat, HT.sIx_nat, Nat.min_eq_left hb, Nat.min_eq_left he]
def dd (w h s : Str) : PyData := .tuple [.str w, .str h, .str s]
def stDeeds (ls : List Str) (sp slot : Str) : List PyData := (ls ++ [sp]).map (fun h => dd "lay" h slot) ++ (ls ++ [sp]).map (fun h => dd "lift" h slot)
def spareM (hands ls : List Str) : List Str := hands.filter fun h => !decide (h ∈ ls)
def leaveM (ls hands : List Str) (slot : Str) : Nat → List Nat → List PyData
  | _, [] => []
  | b, e :: es => stDeeds ((ls.drop b).take (e - b)) ((spareM hands ((ls.drop b).take (e - b))).headD Str.empty) slot ++ leaveM ls hands slot e es
theorem Fin.none0 {S : List Cl} {G : Gm} : Fin S (.nx G S) (.d .none) S := by
  have := Fin.none (S := S) (G := G) (S' := S) (T := []) (Nat.le_refl _) id
  rwa [List.append_nil] at this
/-! ### contracts -/
def C_check : Ct := fun args S e S' => ∃ (names hands : List Str), args = [.d (.list (strsD names)), .d (.list (strsD hands))] ∧ names.length ≤ 1000 ∧ 2 ≤ hands.length ∧ (∀ n ∈ names, n ∈ hands) ∧ e = .d .none ∧ S' = S
def C_stretch : Ct := fun args S e S' => ∃ (x : En) (ls hands : List Str), args = [x, .d (.list (strsD hands))] ∧ IsL S x (ls.map fun y => En.d (.str y)) ∧ ls.length ≤ 1000 ∧ e = .d (.bool (stretchM ls hands.length)) ∧ S' = S
def C_cuts : Ct := fun args S e S' => ∃ (ls hands : List Str), args = [.d (.list (strsD ls)), .d (.list (strsD hands))] ∧ ls.length ≤ 1000 ∧ e = .d (.tuple ((cutsM ls hands.length ls.length 0).map fun n => .int (n : Nat))) ∧ S' = S
def C_stdeeds : Ct := fun args S e S' => ∃ (x : En) (ls hands : List Str) (slot : Str), args = [x, .d (.list (strsD hands)), .d (.str slot)] ∧ IsL S x (ls.map fun y => En.d (.str y)) ∧ ls.length ≤ 500 ∧ hands.length ≤ 500 ∧ spareM hands ls ≠ [] ∧
  e = .p S.length ∧ S' = S ++ [.lst ((stDeeds ls ((spareM hands ls).headD Str.empty) slot).map .d)]
section
variable {P : Program} {w : World} {K : PySem.W.Frag} {mg : Str → Option Value} {base : Heap}
theorem ok_stretch {f : Addr} {fd : FuncData} (F : L2.Fun K "is_stretch" "is_stretch" s_is_stretch f fd) (B : Nb mg) : FnOk P w K mg base L2.CX0 1 f fd ["layers", "hands"] (spOf K C_stretch) := by
  refine fn_c F sc_is_stretch (fun args S e S' h => by obtain ⟨x, ls, hands, rfl, _⟩ := h; rfl) fun cdv A outer s H E hr args S e S' h => ?_
  obtain ⟨x, ls, hands, rfl, hx, hl, rfl, rfl⟩ := h
  refine ⟨_, db_one (ds_ret (de_to (e' := .d (.bool (stretchM ls hands.length))) (de_and (de_cmp op_eq rv_eqI (de_lenset rfl (B.of "len") (B.of "set") hx hl (dv 0 rfl)) (de_len (B.of "len") (.l hx) (dv 0 rfl)))
    (fun _ => de_one (de_cmp op_lt rv_ib (de_len (B.of "len") (.l hx) (dv 0 rfl)) (de_len (B.of "len") (.l .d) (dv 1 rfl))))) ?_ rfl)), Fin.rtd0⟩
  unfold stretchM
  congr 2
  congr 1
  · have := cnD_nodup ls ls.length (Nat.le_refl _)
    rw [List.take_length] at this
    have hle := cnD_le ls ls.length
    by_cases q : ls.Nodup
    · have e := this.mpr q
      rw [decide_eq_true q, decide_eq_true]
      rw [e, List.length_map]
    · rw [decide_eq_false q, decide_eq_false]
      rw [List.length_map]
      intro z
      exact q (this.mp (by omega))
  · rw [List.length_map, List.length_map, List.length_map]
    by_cases q : ls.length < hands.length
    · rw [decide_eq_true q, decide_eq_true (by omega)]
    · rw [decide_eq_false q, decide_eq_false (by omega)]
theorem ok_check {f : Addr} {fd : FuncData} (F : L2.Fun K "check_leaving" "check_leaving" s_check_leaving f fd) (B : Nb mg) : FnOk P w K mg base L2.CX0 1 f fd ["names", "hands"] (spOf K C_check) := by
  refine fn_c F sc_check_leaving (fun args S e S' h => by obtain ⟨names, hands, rfl, _⟩ := h; rfl) fun cdv A outer s H E hr args S e S' h => ?_
  obtain ⟨names, hands, rfl, hl, h2, hin, rfl, hSS⟩ := h
  subst hSS
  refine ⟨_, db_cons (ds_for (xs := enumE (strsD names)) (S1 := S') (g := gTup K 2 (gCons (gName 2) (gCons (gName 3) gNil))) (ix := [2] ++ [3])
      (f := fun e G => match e with | .d (.tuple [a, b]) => (G.set 2 (some (.d a))).set 3 (some (.d b)) | _ => G) (fun _ => startG ["names", "hands", "at", "name"] [.d (.list (strsD names)), .d (.list (strsD hands))]) (fun _ => S') PassesOwn.never rfl
      (di_enum (B.of "enumerate") (dv 0 rfl)) (pg_tup rfl (pgs_cons (pg_name (i := 2) sc_check_leaving.nd rfl (Or.inl rfl)) (pgs_cons (pg_name (i := 3) sc_check_leaving.nd rfl (Or.inl rfl)) pgs_nil))) ?_ (Le.refl _) rfl ?_)
    (db_one (ds_if (dt_w (dw_and (u := false) (dt_cmp op_eq rv_eqI (de_len (B.of "len") (.l .d) (dv 1 rfl)) de_int) (fun h => ?_))) (fun h => ?_) (fun _ => db_nil))), ?_⟩
  · intro e he
    obtain ⟨i, hi⟩ := List.mem_iff_getElem?.mp he
    have hlt : i < (strsD names).length := by
      have := (List.getElem?_eq_some_iff.mp hi).1
      rwa [enumE_length] at this
    rw [enumE_get hlt] at hi
    cases hi
    exact tg_tup2 tg_name tg_name
  · intro i e he
    have hlt : i < (strsD names).length := by
      have := (List.getElem?_eq_some_iff.mp he).1
      rwa [enumE_length] at this
    have hlt' : i < names.length := by simpa using hlt
    rw [enumE_get hlt] at he
    cases he
    have e1 : (strsD names)[i] = .str names[i] := by simp
    rw [e1]
    refine ⟨_, db_one (ds_if (dt_cmp op_notIn_seq (rv_ninS (x := names[i]) (ys := hands) (.l .strs)) (dv 3 rfl) (dv 1 rfl)) (fun h => ?_) (fun _ => db_nil)), Tn.nx ((le_set rfl).trans (le_set rfl))⟩
    have : names[i] ∈ hands := hin _ (List.getElem_mem hlt')
    simp [this] at h
  · exfalso
    have := of_decide_eq_true h
    simp at this
    omega
  · exfalso
    rw [Bool.and_eq_true] at h
    have := of_decide_eq_true h.1
    simp at this
    omega
  · exact Fin.none0
theorem ok_stdeeds {f : Addr} {fd : FuncData} (F : L2.Fun K "stretch_deeds" "stretch_deeds" s_stretch_deeds f fd) (B : Nb mg) : FnOk P w K mg base L2.CX0 1 f fd ["layers", "hands", "slot"] (spOf K C_stdeeds) := by
  refine fn_c F sc_stretch_deeds (fun args S e S' h => by obtain ⟨x, ls, hands, slot, rfl, _⟩ := h; rfl) fun cdv A outer s H E hr args S e S' h => ?_
  obtain ⟨x, ls, hands, slot, rfl, hx, hl, hhl, hne, rfl, rfl⟩ := h
  obtain ⟨sp, rest, hsp⟩ : ∃ sp rest, spareM hands ls = sp :: rest := by
    cases q : spareM hands ls with
    | nil => exact absurd q hne
    | cons a b => exact ⟨a, b, rfl⟩
  have hd : (spareM hands ls).headD Str.empty = sp := by rw [hsp]; rfl
  rw [hd]
  have gT : ∀ {T : List Cl} {j : Nat} {c : Cl}, T[j]? = some c → (S ++ T)[S.length + j]? = some c := fun h => by rw [get_at]; exact h
  let N : List Str := ["layers", "hands", "slot", "spare", "laid", "hand"]
  let nd := sc_stretch_deeds.nd
  let X := (cxOf L2.CX0 P w K mg base N "stretch_deeds" (defScope s_stretch_deeds) f cdv A outer s H E).nox
  let ws : List Str := ls ++ [sp]
  have hws : ws.length ≤ 501 := by simp [ws]; omega
  let G1 : Gm := (startG N [x, .d (.list (strsD hands)), .d (.str slot)]).set 3 (some (.d (.str sp)))
  let lay : List PyData := ws.map fun h => dd "lay" h slot
  let lif : List PyData := ws.map fun h => dd "lift" h slot
  have hspl : (spareM hands ls).length ≤ 500 := Nat.le_trans (List.length_filter_le _ _) hhl
  -- the list [*layers, spare], wherever it is made
  have eW : ls.map (fun y => En.d (.str y)) ++ [En.d (.str sp)] = (strsD ws).map En.d := by rw [← strs_map]; simp [ws]
  refine ⟨_, db_cons (ds_set (i := 3) (de_dropS (T := [.lst ((strsD (spareM hands ls)).map .d)]) (de_ixL (xs := (strsD (spareM hands ls)).map .d) (j := 0) (e := .d (.str sp)) (.c get_last) (by rw [hsp]; exact ixN_nat (by simp)) (by rw [hsp]; rfl)
      (LC.pe <| lc_fS (own := [("hand", 5)]) (j := 5) (ss := hands) (fun h => !decide (h ∈ ls)) PyData.str rfl nd (di_list (dv 1 rfl)) (blkOk_by (own := [("hand", 5)]) (N := N) (sc := defScope s_stretch_deeds) (by decide +kernel)) (fun _ _ _ _ _ => pg_name (i := 5) nd rfl (Or.inl rfl)) (by decide) (by omega)
        (fun y _ s H C cl fp => dt_cmp op_notIn_seq (rv_ninS (.l hx)) (dv 5 rfl) (dv 0 rfl)) (fun y _ _ s H C cl fp => dv 5 rfl))
      de_int)) nd)
    (db_cons (ds_setLc (i := 4) (LC.to (r' := .p S.length) (S'' := S ++ [.lst (lay.map .d)]) (lc_mS (own := [("hand", 5)]) (j := 5) (ss := ws) (S1 := S) (fun h => dd "lay" h slot) rfl nd
        (di_list (ds := strsD ws) (de_fz (S1 := S) (de_to (de_lst (da_star (.l hx) (dv 0 rfl) (da_cons (dv 3 rfl) da_nil)) (by simp; omega)) rfl (by rw [eW])) id (Nat.le_refl _)))
        (blkOk_by (own := [("hand", 5)]) (N := N) (sc := defScope s_stretch_deeds) (by decide +kernel)) (fun _ _ _ _ _ => pg_name (i := 5) nd rfl (Or.inl rfl)) (by decide) (by omega)
        (fun y _ s H C cl fp => de_tup (ds := [.str "lay", .str y, .str slot]) (da_cons de_str (da_cons (dv 5 rfl) (da_cons (dv 2 rfl) da_nil))) (Nat.le_of_ble_eq_true rfl))) rfl rfl))
    (db_one (ds_ret (de_to (e' := .p (S.length + 2)) (S2 := S ++ [.lst (lay.map .d), .lst (lif.map .d), .lst ((stDeeds ls sp slot).map .d)]) (de_bin op_cat (rv_cat (S := S ++ [.lst (lay.map .d), .lst (lif.map .d)]) (m := S.length + 0) (n := S.length + 1) (xs := lay.map .d) (ys := lif.map .d) (gT rfl) (gT rfl) (by simp [lay, lif]; omega)) (dv 4 rfl)
      (de_to (e' := .p (S.length + 1)) (S2 := S ++ [.lst (lay.map .d), .lst (lif.map .d)]) (LC.pe <| lc_mS (own := [("hand", 5)]) (j := 5) (ss := ws) (S1 := S ++ [.lst (lay.map .d)]) (fun h => dd "lift" h slot) rfl nd
        (di_list (ds := strsD ws) (de_fz (S1 := S ++ [.lst (lay.map .d)]) (de_to (de_lst (da_star (.l hx.app) (dv 0 rfl) (da_cons (dv 3 rfl) da_nil)) (by simp; omega)) rfl (by rw [eW])) id (Nat.le_refl _)))
        (blkOk_by (own := [("hand", 5)]) (N := N) (sc := defScope s_stretch_deeds) (by decide +kernel)) (fun _ _ _ _ _ => pg_name (i := 5) nd rfl (Or.inl rfl)) (by decide) (by omega)
        (fun y _ s H C cl fp => de_tup (ds := [.str "lift", .str y, .str slot]) (da_cons de_str (da_cons (dv 5 rfl) (da_cons (dv 2 rfl) da_nil))) (Nat.le_of_ble_eq_true rfl))) (by simp) (by simp [lif]))) (by simp) (by simp [stDeeds, lay, lif, ws]))))), ?_⟩
  have h := Fin.last (S := S) (S0 := S) (T0 := [.lst (lay.map .d), .lst (lif.map .d)]) (xs := (stDeeds ls sp slot).map .d) rfl (lo_d _) id
  rw [List.length_append, List.append_assoc] at h
  exact h
end
end AF

set_option Elab.async false
set_option linter.all false
set_option maxRecDepth 100000
set_option maxHeartbeats 4000000
namespace AF
open PySem PySem.Spec PyProof.Rows L2
def LeB : Gm → Gm → Prop
  | [], [] => True
  | none :: t, _ :: t' => LeB t t'
  | some e :: t, some e' :: t' => e = e' ∧ LeB t t'
  | _, _ => False
theorem LeB.le : ∀ {G G' : Gm}, LeB G G' → Le G G'
  | [], [], _ => Le.refl _
  | none :: t, o :: t', h => by
    obtain ⟨h1, h2⟩ := LeB.le (G := t) (G' := t') h
    refine ⟨by simp [h1], fun j e he => ?_⟩
    cases j with
    | zero => simp at he
    | succ j => simpa using h2 j e (by simpa using he)
  | some e :: t, some e' :: t', h => by
    obtain ⟨he, h⟩ := h
    subst he
    obtain ⟨h1, h2⟩ := LeB.le h
    refine ⟨by simp [h1], fun j e he => ?_⟩
    cases j with
    | zero => simpa using he
    | succ j => simpa using h2 j e (by simpa using he)
  | [], _ :: _, h => h.elim
  | some _ :: _, [], h => h.elim
  | some _ :: _, none :: _, h => h.elim
def wTest : Stmt → Expr
  | .While c _ _ _ => c
  | _ => .Constant .none 0 ⟨0, 0, 0, 0⟩
def wBody : Stmt → List Stmt
  | .While _ b _ _ => b
  | _ => []
def fBody : Stmt → List Stmt
  | .For _ _ b _ _ => b
  | _ => []
def stAt (st : Stmt) (i : Nat) : Stmt := (defBody st).getD i (.Pass ⟨0, 0, 0, 0⟩)
def inAt (l : List Stmt) (i : Nat) : Stmt := l.getD i (.Pass ⟨0, 0, 0, 0⟩)
section
variable {P : Program} {w : World} {K : PySem.W.Frag} {mg : Str → Option Value} {base : Heap}
theorem ok_cuts {f : Addr} {fd : FuncData} (F : L2.Fun K "cuts_of" "cuts_of" s_cuts_of f fd) (B : Nb mg) (Ds : Df P w K mg base 1 "is_stretch" [] C_stretch) : FnOk P w K mg base L2.CX0 2 f fd ["layers", "hands"] (spOf K C_cuts) := by
  refine fn_c F sc_cuts_of (fun args S e S' h => by obtain ⟨ls, hands, rfl, _⟩ := h; rfl) fun cdv A outer s H E hr args S e S' h => ?_
  obtain ⟨ls, hands, rfl, hl, rfl, hSS⟩ := h
  subst hSS
  let N : List Str := ["layers", "hands", "cuts", "begin", "end"]
  have nd := sc_cuts_of.nd
  let X := (cxOf L2.CX0 P w K mg base N "cuts_of" (defScope s_cuts_of) f cdv A outer s H E).nox
  let G0 : Gm := (startG N [.d (.list (strsD ls)), .d (.list (strsD hands))]).set 2 (some (.p S'.length))
  let m := hands.length
  let Gb : Nat → Gm := fun b => G0.set 3 (some (.d (.int (b : Nat))))
  have inner : ∀ (b : Nat), b < ls.length → ∀ (f e : Nat) (St : List Cl), e + f = ls.length → b < e → ∃ n, Wh X (wTest (inAt (wBody (stAt s_cuts_of 1)) 1)) (wBody (inAt (wBody (stAt s_cuts_of 1)) 1)) n ((Gb b).set 4 (some (.d (.int (e : Nat))))) St (.nx ((Gb b).set 4 (some (.d (.int (extM ls m b f e : Nat))))) St) := by
    intro b hb f
    induction f with
    | zero =>
      intro e St he hbe
      exact ⟨0, .stop (dt_to (dt_w (dw_and (u := false) (dt_cmp op_lt rv_ib (dv 4 rfl) (de_len (B.of "len") (.l .d) (dv 0 rfl))) (fun h => absurd (of_decide_eq_true h) (by simp; omega)))) (by simp) rfl)⟩
    | succ f ih =>
      intro e St he hbe
      have hlt : e < ls.length := by omega
      have test : DT X ((Gb b).set 4 (some (.d (.int (e : Nat))))) St (wTest (inAt (wBody (stAt s_cuts_of 1)) 1)) (condM ls m b e) St := by
        refine dt_to (dt_w (dw_and (u := stretchM ((ls.drop b).take (e + 1 - b)) m) (dt_cmp op_lt rv_ib (dv 4 rfl) (de_len (B.of "len") (.l .d) (dv 0 rfl))) (fun _ => dw_and1 (dt_val (de_dropS (T := [.lst (((strsD ((ls.drop b).take (e + 1 - b)))).map .d)])
          (de_call Ds hr (by decide) ⟨.p St.length, (ls.drop b).take (e + 1 - b), hands, rfl, .cells get_last, by simp; omega, rfl, rfl⟩
            (da_cons (de_to (de_slL (l := some (b : Int)) (h := some ((e + 1 : Nat) : Int)) (xs := (strsD ls).map .d) .d (dv 0 rfl) (do_some (dv 3 rfl)) (do_some (de_to (de_bin op_add rv_ii (dv 4 rfl) de_int) (by simp) rfl))) rfl ?_) (da_cons (dv 1 rfl) da_nil)))))))) ?_ rfl
        · rw [cutA_nat (by simp; omega) (by simp; omega)]
          simp [List.map_take, List.map_drop]
        · unfold condM
          congr 1
          simp
      by_cases hc : condM ls m b e = true
      · obtain ⟨n, hn⟩ := ih (e + 1) St (by omega) (by omega)
        have e1 : extM ls m b (f + 1) e = extM ls m b f (e + 1) := by rw [extM, if_pos hc]
        rw [e1]
        rw [hc] at test
        exact ⟨n + 1, .go test (db_one (ds_to (ds_aug (i := 4) ip_add rfl de_int nd) rfl)) (Tn.nx (G' := ((Gb b).set 4 (some (.d (.int ((e + 1 : Nat) : Int)))))) (Le.refl _)) hn⟩
      · have e1 : extM ls m b (f + 1) e = e := by rw [extM, if_neg hc]
        rw [e1]
        have hc' : condM ls m b e = false := by simpa using hc
        rw [hc'] at test
        exact ⟨0, .stop test⟩
  have outer : ∀ (f b : Nat) (acc : List En), b ≤ ls.length → ls.length ≤ b + f → acc.length ≤ b → ∃ n, Wh X (wTest (stAt s_cuts_of 1)) (wBody (stAt s_cuts_of 1)) n (Gb b) (S' ++ [.lst acc]) (.nx (Gb ls.length) (S' ++ [.lst (acc ++ (cutsM ls m f b).map fun n => .d (.int (n : Nat)))])) := by
    intro f
    induction f with
    | zero =>
      intro b acc h1 h2 h3
      have e : b = ls.length := by omega
      subst e
      refine ⟨0, ?_⟩
      have := Wh.stop (X := X) (c := wTest (stAt s_cuts_of 1)) (body := wBody (stAt s_cuts_of 1)) (G := Gb ls.length) (S := S' ++ [.lst acc]) (T := S' ++ [Cl.lst acc]) (dt_to (dt_cmp op_lt rv_ib (dv 3 rfl) (de_len (B.of "len") (.l .d) (dv 0 rfl))) (by simp) rfl)
      simpa [cutsM] using this
    | succ f ih =>
      intro b acc h1 h2 h3
      by_cases hb : b < ls.length
      · generalize he : extM ls m b (ls.length - (b + 1)) (b + 1) = e
        have e1 : b + 1 ≤ e := by rw [← he]; exact extM_ge _ _ _ _ _
        have e2 : e ≤ ls.length := by rw [← he]; exact extM_le _ _ _ _ _ (by omega)
        obtain ⟨n1, w1⟩ := inner b hb (ls.length - (b + 1)) (b + 1) (S' ++ [.lst acc]) (by omega) (by omega)
        rw [he] at w1
        have h1 : DS X ((Gb b).set 4 (some (.d (.int ((b + 1 : Nat) : Int))))) (S' ++ [Cl.lst acc]) (inAt (wBody (stAt s_cuts_of 1)) 1) (.nx ((Gb b).set 4 (some (.d (.int (e : Nat))))) (S' ++ [Cl.lst acc])) := ds_wh (c := wTest (inAt (wBody (stAt s_cuts_of 1)) 1)) (body := wBody (inAt (wBody (stAt s_cuts_of 1)) 1)) w1 PassesOwn.never
        obtain ⟨n, w2⟩ := ih e (acc ++ [.d (.int (e : Nat))]) e2 (by omega) (by simp; omega)
        have ec : cutsM ls m (f + 1) b = e :: cutsM ls m f e := by rw [cutsM, if_pos hb, he]
        rw [ec]
        have ea : acc ++ (e :: cutsM ls m f e).map (fun n => En.d (.int (n : Nat))) = (acc ++ [.d (.int (e : Nat))]) ++ (cutsM ls m f e).map (fun n => En.d (.int (n : Nat))) := by simp
        rw [ea]
        refine ⟨n + 1, .go (T := S' ++ [Cl.lst acc]) (dt_to (dt_cmp op_lt rv_ib (dv 3 rfl) (de_len (B.of "len") (.l .d) (dv 0 rfl))) (by simp; omega) rfl)
          (db_cons (ds_set (i := 4) (de_to (e' := .d (.int ((b + 1 : Nat) : Int))) (de_bin op_add rv_ii (dv 3 rfl) de_int) rfl rfl) nd)
          (db_cons (st := inAt (wBody (stAt s_cuts_of 1)) 1) h1 (db_cons (ds_expr (de_append (i := S'.length) (x := .d (.int (e : Nat))) (S2 := S' ++ [.lst acc]) get_last (by omega) (dv 2 rfl) ⟨_, get_last⟩ (dv 4 rfl)))
          (db_one (ds_set (i := 3) (dv 4 rfl) nd))))) (o' := Out.nx (((Gb b).set 4 (some (En.d (.int (e : Nat))))).set 3 (some (En.d (.int (e : Nat))))) ((S' ++ [Cl.lst acc]).set S'.length (Cl.lst (acc ++ [En.d (.int (e : Nat))])))) ?_ w2⟩
        refine ⟨((Gb b).set 4 (some (En.d (.int (e : Nat))))).set 3 (some (En.d (.int (e : Nat)))), LeB.le (And.intro rfl (And.intro rfl (And.intro rfl (And.intro rfl trivial)))), .inl ?_⟩
        congr 1
        simp
      · have e : b = ls.length := by omega
        subst e
        refine ⟨0, ?_⟩
        have := Wh.stop (X := X) (c := wTest (stAt s_cuts_of 1)) (body := wBody (stAt s_cuts_of 1)) (G := Gb ls.length) (S := S' ++ [.lst acc]) (T := S' ++ [Cl.lst acc]) (dt_to (dt_cmp op_lt rv_ib (dv 3 rfl) (de_len (B.of "len") (.l .d) (dv 0 rfl))) (by simp) rfl)
        simpa [cutsM] using this
  obtain ⟨n, wo⟩ := outer ls.length 0 [] (Nat.zero_le _) (by omega) (Nat.zero_le _)
  rw [List.nil_append] at wo
  let cs : List PyData := (cutsM ls m ls.length 0).map fun n => .int (n : Nat)
  have ecs : (cutsM ls m ls.length 0).map (fun n => En.d (.int (n : Nat))) = cs.map En.d := by simp [cs]
  rw [ecs] at wo
  have h1 : DS X (Gb 0) (S' ++ [Cl.lst []]) (stAt s_cuts_of 1) (.nx (Gb ls.length) (S' ++ [Cl.lst (cs.map En.d)])) := ds_wh (c := wTest (stAt s_cuts_of 1)) (body := wBody (stAt s_cuts_of 1)) wo PassesOwn.never
  exact ⟨.rt (.d (.tuple cs)) (S' ++ [Cl.lst (cs.map En.d)]), db_cons (ds_par (i := 2) (j := 3) (S1 := S' ++ [Cl.lst []]) (x := .p S'.length) (y := .d (.int ((0 : Nat) : Int))) (da_cons (de_lst da_nil (Nat.zero_le _)) (da_cons de_int da_nil)) rfl nd) (db_cons (st := stAt s_cuts_of 1) h1 (db_one (ds_ret (de_tuple (B.of "tuple") (.l (.c get_last)) (dv 2 rfl))))), Fin.rtd⟩
end
end AF

set_option Elab.async false
set_option linter.all false
set_option maxRecDepth 100000
set_option maxHeartbeats 4000000
namespace AF
open PySem PySem.Spec PyProof.Rows L2
theorem nodup_le : ∀ {l m : List Str}, l.Nodup → (∀ x ∈ l, x ∈ m) → l.length ≤ m.length
  | [], _, _, _ => Nat.zero_le _
  | a :: l, m, h, hs => by
    obtain ⟨h1, h2⟩ := List.nodup_cons.mp h
    have ha : a ∈ m := hs a List.mem_cons_self
    have := nodup_le (l := l) (m := m.erase a) h2 fun x hx => by
      refine (List.mem_erase_of_ne (fun e => h1 (by rw [← e]; exact hx))).mpr (hs x (List.mem_cons_of_mem _ hx))
    rw [List.length_erase_of_mem ha] at this
    have hp : 0 < m.length := List.length_pos_of_mem ha
    simp only [List.length_cons]
    omega
theorem spare_ne {hands seg : List Str} (hn : hands.Nodup) (hl : seg.length < hands.length) : spareM hands seg ≠ [] := fun h => by
  have all : ∀ x ∈ hands, x ∈ seg := fun x hx => by
    have := List.filter_eq_nil_iff.mp h x hx
    simpa using this
  have := nodup_le hn all
  omega
theorem extM_seg (ls : List Str) (m b : Nat) : ∀ f e, (e = b + 1 ∨ stretchM ((ls.drop b).take (e - b)) m = true) → (extM ls m b f e = b + 1 ∨ stretchM ((ls.drop b).take (extM ls m b f e - b)) m = true)
  | 0, e, h => h
  | f + 1, e, h => by
    unfold extM
    split
    · rename_i hc
      refine extM_seg ls m b f (e + 1) (.inr ?_)
      unfold condM at hc
      rw [Bool.and_eq_true] at hc
      exact hc.2
    · exact h
def SegOk (ls hands : List Str) : Nat → List Nat → Prop
  | _, [] => True
  | b, e :: es => b < e ∧ e ≤ ls.length ∧ ((ls.drop b).take (e - b)).length < hands.length ∧ SegOk ls hands e es
theorem cutsM_ok {ls hands : List Str} (h2 : 2 ≤ hands.length) : ∀ f b, b ≤ ls.length → SegOk ls hands b (cutsM ls hands.length f b)
  | 0, _, _ => trivial
  | f + 1, b, hb => by
    unfold cutsM
    split
    · rename_i hlt
      have e1 := extM_ge ls hands.length b (ls.length - (b + 1)) (b + 1)
      have e2 := extM_le ls hands.length b (ls.length - (b + 1)) (b + 1) hlt
      refine ⟨by omega, e2, ?_, cutsM_ok h2 f _ e2⟩
      rcases extM_seg ls hands.length b (ls.length - (b + 1)) (b + 1) (.inl rfl) with z | z
      · rw [z, List.length_take]; omega
      · unfold stretchM at z
        rw [Bool.and_eq_true, decide_eq_true_eq, decide_eq_true_eq] at z
        exact z.2
    · trivial
theorem stDeeds_len (ls : List Str) (a b : Str) : (stDeeds ls a b).length = 2 * (ls.length + 1) := by simp [stDeeds]; omega
def lastB : Nat → List Nat → Nat
  | b, [] => b
  | _, e :: es => lastB e es
def cutsL (names hands : List Str) : List Nat := cutsM names.reverse hands.length names.reverse.length 0
def deedsL (names hands : List Str) (slot : Str) : List PyData := leaveM names.reverse hands slot 0 (cutsL names hands)
def C_leave : Ct := fun args S e S' => ∃ (names hands : List Str) (slot : Str), args = [.d (.list (strsD names)), .d (.list (strsD hands)), .d (.str slot)] ∧ names.length ≤ 400 ∧ hands.length ≤ 400 ∧ 2 ≤ hands.length ∧ hands.Nodup ∧ (∀ n ∈ names, n ∈ hands) ∧
  e = .d (.tuple [.tuple (deedsL names hands slot), .tuple ((cutsL names hands).map fun n => .int (n : Nat))]) ∧ S' = S
def fIter : Stmt → Expr
  | .For _ i _ _ _ => i
  | _ => .Constant .none 0 ⟨0, 0, 0, 0⟩
def fTg : Stmt → Expr
  | .For t _ _ _ _ => t
  | _ => .Constant .none 0 ⟨0, 0, 0, 0⟩
section
variable {P : Program} {w : World} {K : PySem.W.Frag} {mg : Str → Option Value} {base : Heap}
theorem ok_leave {f : Addr} {fd : FuncData} {kws : List (Str × V)} (F : FunD K "leave" "leave" (defArgs s_leave) (defBody s_leave) (defScope s_leave) [] kws f fd) (B : Nb mg) (Dk : Df P w K mg base 1 "check_leaving" [] C_check) (Dc : Df P w K mg base 2 "cuts_of" [] C_cuts) (Dd : Df P w K mg base 1 "stretch_deeds" [] C_stdeeds) :
    FnOk P w K mg base L2.CX0 3 f fd ["names", "hands", "slot"] (spOf K C_leave) := by
  refine fn_cD F sc_leave (fun args S e S' h => by obtain ⟨names, hands, slot, rfl, _⟩ := h; rfl) fun cdv A outer s H E hr args S e S' h => ?_
  obtain ⟨names, hands, slot, rfl, hnl, hhl, h2, hnd, hin, rfl, hSS⟩ := h
  subst hSS
  let N : List Str := ["names", "hands", "slot", "layers", "deeds", "begin", "cuts", "end"]
  have nd := sc_leave.nd
  let X := (cxOf L2.CX0 P w K mg base N "leave" (defScope s_leave) f cdv A outer s H E).nox
  generalize hls : names.reverse = ls
  have hll : ls.length ≤ 400 := by rw [← hls, List.length_reverse]; exact hnl
  let cs : List Nat := cutsM ls hands.length ls.length 0
  let ci : List PyData := cs.map fun n => .int (n : Nat)
  let ne : Cl := .lst ((strsD names).map .d)
  let St : List PyData → List Cl := fun acc => S' ++ [ne, .gone, .lst (acc.map .d)]
  let G1 : Gm := (((startG N [.d (.list (strsD names)), .d (.list (strsD hands)), .d (.str slot)]).set 3 (some (.p (S'.length + 1)))).set 4 (some (.p (S'.length + 2)))).set 5 (some (.d (.int ((0 : Nat) : Int))))
  let Gb : Nat → Gm := fun b => ((G1.set 3 (some (.d (.list (strsD ls))))).set 5 (some (.d (.int (b : Nat))))).set 6 (some (.d (.tuple ci)))
  have gT : ∀ {T : List Cl} {j : Nat} {c : Cl}, T[j]? = some c → (S' ++ T)[S'.length + j]? = some c := fun h => by rw [get_at]; exact h
  have loop : ∀ (cs : List Nat) (b : Nat) (acc : List PyData), SegOk ls hands b cs → b ≤ ls.length → acc.length ≤ 4 * b →
      Fo X (fun e G => G.set 7 (some e)) (fBody (stAt s_leave 3)) ((cs.map fun n => PyData.int (n : Nat)).map En.d) (Gb b) (St acc) (.nx (Gb (lastB b cs)) (St (acc ++ leaveM ls hands slot b cs))) := by
    intro cs
    induction cs with
    | nil => intro b acc _ _ _; simpa [leaveM, lastB] using Fo.nil (X := X) (f := fun e G => G.set 7 (some e)) (body := fBody (stAt s_leave 3)) (G := Gb b) (S := St acc)
    | cons e es ih =>
      intro b acc hseg hb hacc
      obtain ⟨s1, s2, s3, s4⟩ := hseg
      generalize hsg : (ls.drop b).take (e - b) = seg at s3
      have hsl : seg.length = e - b := by rw [← hsg, List.length_take, List.length_drop]; omega
      let new : List PyData := stDeeds seg ((spareM hands seg).headD Str.empty) slot
      have hnew : new.length = 2 * (seg.length + 1) := stDeeds_len _ _ _
      have e0 : leaveM ls hands slot b (e :: es) = new ++ leaveM ls hands slot e es := by rw [leaveM, hsg]
      have e1 : lastB b (e :: es) = lastB e es := rfl
      rw [e0, e1, ← List.append_assoc]
      have dcut : DE X ((Gb b).set 7 (some (.d (.int (e : Nat))))) (St acc) (match inAt (fBody (stAt s_leave 3)) 0 with | .Expr (.Call _ [.Call _ (x :: _) _ _] _ _) _ => x | _ => .Constant .none 0 ⟨0, 0, 0, 0⟩) (.p (S'.length + 3)) (S' ++ [ne, .gone, .lst (acc.map .d), .lst ((strsD seg).map .d)]) := by
        refine de_to (de_slL (l := some (b : Int)) (h := some (e : Int)) (xs := (strsD ls).map .d) (.d) (dv 3 rfl) (do_some (dv 5 rfl)) (do_some (dv 7 rfl))) (by simp [St]) ?_
        rw [cutA_nat (by simp; omega) (by simp; omega), ← hsg]
        simp [St, List.map_take, List.map_drop]
      refine .cons (G1 := Gb e) (S1 := St (acc ++ new)) (db_cons (ds_expr (de_drop (S1 := St (acc ++ new)) (T := [.lst ((strsD seg).map .d), .lst (new.map .d)]) (de_to (de_extend (i := S'.length + 2) (m := S'.length + 4) (xs := acc.map .d) (ys := new.map .d) (S2 := S' ++ [ne, .gone, .lst (acc.map .d), .lst ((strsD seg).map .d), .lst (new.map .d)]) (gT rfl) (gT rfl) (by simp; omega) (dv 4 rfl) ⟨_, gT rfl⟩
          (de_to (de_call Dd hr (by decide) ⟨.p (S'.length + 3), seg, hands, slot, rfl, .cells (gT rfl), by omega, by omega, spare_ne hnd s3, rfl, rfl⟩ (da_cons dcut (da_cons (dv 1 rfl) (da_cons (dv 2 rfl) da_nil)))) (by simp) (by simp [new]))) rfl ?_) rfl ?_ ?_))
        (db_one (ds_set (i := 5) (dv 7 rfl) nd))) ⟨((Gb b).set 7 (some (.d (.int (e : Nat))))).set 5 (some (.d (.int (e : Nat)))), LeB.le (And.intro rfl (And.intro rfl (And.intro rfl (And.intro rfl (And.intro rfl (And.intro rfl (And.intro rfl trivial))))))), .inl rfl⟩ (ih e (acc ++ new) s4 s2 (by rw [List.length_append, hnew, hsl]; omega))
      · have := set_at (S := S') (T := [ne, Cl.gone, Cl.lst (acc.map .d), Cl.lst ((strsD seg).map .d), Cl.lst (new.map .d)]) (j := 2) (c := Cl.lst (acc.map .d ++ new.map .d))
        rw [this]
        simp [St]
      · intro hlo
        simp only [St, List.all_append, Bool.and_eq_true, List.length_append] at hlo ⊢
        exact ⟨hlo.1, by simp [ne, Cl.lo]; exact ⟨fun _ _ => rfl, fun _ _ => rfl, fun _ _ => rfl⟩⟩
      · simp [St]
  have tail : DB X (G1.set 3 (some (.d (.list (strsD ls))))) (St []) ((defBody s_leave).drop 2) (.rt (.d (.tuple [.tuple (leaveM ls hands slot 0 cs), .tuple ci])) (St (leaveM ls hands slot 0 cs))) := by
    have lp := loop cs 0 [] (cutsM_ok h2 _ _ (Nat.zero_le _)) (Nat.zero_le _) (Nat.zero_le _)
    rw [List.nil_append] at lp
    have h3 : DS X (Gb 0) (St []) (stAt s_leave 3) (.nx (Gb (lastB 0 cs)) (St (leaveM ls hands slot 0 cs))) :=
      ds_fo (tg := fTg (stAt s_leave 3)) (iter := fIter (stAt s_leave 3)) (body := fBody (stAt s_leave 3)) (g := gName 7) (ix := [7]) lp PassesOwn.never rfl (di_tup (dv 6 rfl)) (Le.refl _) (pg_name (i := 7) nd rfl (Or.inl rfl)) (fun e _ => tg_name)
    exact db_cons (G1 := Gb 0) (S1 := St []) (ds_set (i := 6) (de_call Dc hr (by decide) ⟨ls, hands, rfl, by omega, rfl, rfl⟩ (da_cons (dv 3 rfl) (da_cons (dv 1 rfl) da_nil))) nd)
      (db_cons (st := stAt s_leave 3) h3 (db_one (ds_ret (de_tup (ds := [.tuple (leaveM ls hands slot 0 cs), .tuple ci]) (da_cons (de_tuple (B.of "tuple") (.l (.c (gT rfl))) (dv 4 rfl)) (da_cons (dv 6 rfl) da_nil)) (Nat.le_of_ble_eq_true rfl)))))
  have tail2 : DB X G1 (S' ++ [ne, .lst ((strsD ls).map .d), .lst []]) ((defBody s_leave).drop 2) (.rt (.d (.tuple [.tuple (leaveM ls hands slot 0 cs), .tuple ci])) (St (leaveM ls hands slot 0 cs))) := by
    refine db_frz (j := 3) (i := S'.length + 1) (ds := strsD ls) rfl (gT rfl) ?_
    have e : (S' ++ [ne, Cl.lst ((strsD ls).map .d), Cl.lst []]).set (S'.length + 1) .gone = St [] := by rw [set_at]; rfl
    rw [e]; exact tail
  refine ⟨.rt (.d (.tuple [.tuple (leaveM ls hands slot 0 cs), .tuple ci])) (St (leaveM ls hands slot 0 cs)), db_cons (ds_expr (de_call Dk hr (by decide) ⟨names, hands, rfl, by omega, h2, hin, rfl, rfl⟩ (da_cons (dv 0 rfl) (da_cons (dv 1 rfl) da_nil)))) (db_cons (ds_par3 (i := 3) (j := 4) (l := 5) (da_to (da_cons (de_to (e' := .p (S'.length + 1)) (S2 := S' ++ [ne, .lst ((strsD ls).map .d)]) (de_rev (.c get_last) (de_list (B.of "list") (.l .d) (dv 0 rfl))) (by simp) ?_)
    (da_cons (de_to (e' := .p (S'.length + 2)) (S2 := S' ++ [ne, .lst ((strsD ls).map .d), .lst []]) (de_lst da_nil (Nat.zero_le _)) (by simp) (by simp)) (da_cons de_int da_nil))) rfl rfl) rfl nd) tail2), ?_⟩
  · rw [← hls]
    simp [ne, List.map_reverse]
  · have e1 : deedsL names hands slot = leaveM ls hands slot 0 cs := by unfold deedsL cutsL; rw [hls]
    have e2 : (cutsL names hands).map (fun n => PyData.int (n : Nat)) = ci := by unfold cutsL; rw [hls]
    rw [e1, e2]
    exact Fin.rtd
end
end AF

set_option Elab.async false
set_option linter.all false
set_option maxRecDepth 100000
set_option maxHeartbeats 4000000
/-! the law's own states: a word, and what stands apart under a hand -/
namespace AF
open PySem PySem.Spec PyProof.Rows L2 PySem.W
section
variable {α : Type} [DecidableEq α] (le : α → α → Bool)
abbrev StT (α : Type) := List α × List (α × List α)
def insG (x : α × List α) : List (α × List α) → List (α × List α)
  | [] => [x]
  | y :: l => if le x.1 y.1 then x :: y :: l else y :: insG x l
def restG (s : StT α) (h : α) : List (α × List α) := s.2.filter fun p => !decide (p.1 = h)
def ownG (s : StT α) (h : α) : List (α × List α) := s.2.filter fun p => decide (p.1 = h)
def stepG (s : StT α) (h : α) : StT α := match ownG s h with
  | [] => (h :: s.1, insG le (h, s.1) (restG s h))
  | o :: _ => (o.2, restG s h)
def nextG (s : StT α) (hands : List α) : List (StT α) := hands.map (stepG le s)
/-- strictly up by the hands -/
def UpG (l : List (α × List α)) : Prop := l.Pairwise fun a b => a.1 ≠ b.1 ∧ le a.1 b.1 = true
theorem insG_perm (x : α × List α) : ∀ l, (insG le x l).Perm (x :: l)
  | [] => List.Perm.refl _
  | y :: l => by
    unfold insG
    split
    · exact List.Perm.refl _
    · exact (List.Perm.cons y (insG_perm x l)).trans (List.Perm.swap x y l)
variable {le}
theorem insG_up (tot : ∀ a b, le a b = true ∨ le b a = true) (tr : ∀ a b c, le a b = true → le b c = true → le a c = true) {x : α × List α} : ∀ {l : List (α × List α)}, UpG le l → (∀ y ∈ l, y.1 ≠ x.1) → UpG le (insG le x l)
  | [], _, _ => List.pairwise_singleton _ _
  | y :: l, h, hx => by
    obtain ⟨h1, h2⟩ := List.pairwise_cons.mp h
    have hy := hx y List.mem_cons_self
    unfold insG
    split
    · rename_i q
      refine List.pairwise_cons.mpr ⟨fun z hz => ?_, h⟩
      rcases List.mem_cons.mp hz with rfl | hz
      · exact ⟨fun e => hy e.symm, q⟩
      · exact ⟨fun e => hx z (List.mem_cons_of_mem _ hz) e.symm, tr _ _ _ q (h1 z hz).2⟩
    · rename_i q
      have q' : le y.1 x.1 = true := (tot x.1 y.1).resolve_left q
      refine List.pairwise_cons.mpr ⟨fun z hz => ?_, insG_up tot tr h2 fun z hz => hx z (List.mem_cons_of_mem _ hz)⟩
      rcases List.mem_cons.mp ((insG_perm le x l).mem_iff.mp hz) with rfl | hz
      · exact ⟨hy, q'⟩
      · exact h1 z hz
theorem up_rest {s : StT α} {h : α} (hs : UpG le s.2) : UpG le (restG s h) := List.Pairwise.sublist List.filter_sublist hs
theorem rest_ne {s : StT α} {h : α} : ∀ y ∈ restG s h, y.1 ≠ h := fun y hy e => by
  have := (List.mem_filter.mp hy).2
  rw [decide_eq_true e] at this
  cases this
theorem step_up (tot : ∀ a b, le a b = true ∨ le b a = true) (tr : ∀ a b c, le a b = true → le b c = true → le a c = true) {s : StT α} {h : α} (hs : UpG le s.2) : UpG le (stepG le s h).2 := by
  unfold stepG
  split
  · exact insG_up tot tr (up_rest hs) rest_ne
  · exact up_rest hs
end
/-! ### texts -/
def leS (a b : Str) : Bool := decide (a.cps.toList ≤ b.cps.toList)
theorem leS_tot (a b : Str) : leS a b = true ∨ leS b a = true := by
  unfold leS
  rw [decide_eq_true_iff, decide_eq_true_iff]
  exact List.le_total _ _
theorem leS_tr (a b c : Str) (h1 : leS a b = true) (h2 : leS b c = true) : leS a c = true := by
  unfold leS at *
  rw [decide_eq_true_iff] at *
  exact List.le_trans h1 h2
theorem leS_anti {a b : Str} (h1 : leS a b = true) (h2 : leS b a = true) : a = b := by
  unfold leS at *
  rw [decide_eq_true_iff] at *
  exact str_of_cps (List.le_antisymm h1 h2)
def prD (p : Str × List Str) : PyData := .tuple [.str p.1, .tuple (strsD p.2)]
def stD (s : StT Str) : PyData := .tuple [.tuple (strsD s.1), .tuple (s.2.map prD)]
theorem alike_strs : ∀ xs ys : List Str, alikeAll (strsD xs) (strsD ys) = true
  | [], _ => by simp [alikeAll]
  | _ :: _, [] => by simp [alikeAll]
  | x :: xs, y :: ys => by
    show alikeAll (.str x :: strsD xs) (.str y :: strsD ys) = true
    rw [alikeAll, alike_strs xs ys]
    simp [alike]
theorem alike_pr (p q : Str × List Str) : alike (prD p) (prD q) = true := by
  simp [prD, alike, alikeAll, alike_strs]
theorem depth_strs : ∀ xs : List Str, PyData.depthAll (strsD xs) = 0
  | [] => by simp [PyData.depthAll]
  | x :: xs => by
    show PyData.depthAll (.str x :: strsD xs) = 0
    rw [PyData.depthAll, depth_strs xs]
    simp [PyData.depth]
theorem depth_pr (p : Str × List Str) : (prD p).depth ≤ 60 := by
  simp [prD, PyData.depth, PyData.depthAll, depth_strs]
theorem dl_pr {p q : Str × List Str} (h : p.1 ≠ q.1) : dataLe false id (prD p) (prD q) = leS p.1 q.1 := by
  rw [dataLe_eq]
  show (!dataLt (prD q) (prD p)) = _
  unfold prD
  rw [dataLt_pair (by simp [alike]) (by simp [alike, alike_strs])]
  have e : PyData.eqv (.str q.1) (.str p.1) = false := by
    simp only [PyData.eqv]
    exact beq_eq_false_iff_ne.mpr (Ne.symm h)
  rw [e, if_neg Bool.false_ne_true, dataLt_str, not_lt_str]
  rfl
theorem sort_pr {x : Str × List Str} {rest : List (Str × List Str)} (hs : UpG leS rest) (hx : ∀ y ∈ rest, y.1 ≠ x.1) : ((rest.map prD) ++ [prD x]).mergeSort (dataLe false id) = (insG leS x rest).map prD := by
  have tl : TotalLe (dataLe false (id : PyData → PyData)) := sortLe_total _ _ _
  have hup := insG_up leS_tot leS_tr hs hx
  have hp : ((insG leS x rest).map prD).Perm ((rest.map prD) ++ [prD x]) := ((insG_perm leS x rest).map prD).trans (by
    rw [List.map_cons]
    exact (List.perm_append_singleton _ _).symm)
  have hpw : ((insG leS x rest).map prD).Pairwise fun a b => dataLe false id a b = true := by
    refine List.pairwise_map.mpr (hup.imp ?_)
    intro a b h
    rw [dl_pr h.1]; exact h.2
  refine List.Perm.eq_of_pairwise (le := fun a b => dataLe false id a b = true) ?_ (sort_pairwise tl _) hpw ((List.mergeSort_perm _ _).trans hp.symm)
  intro a b ha hb h1 h2
  have ha' := hp.mem_iff.mpr ((List.mergeSort_perm _ _).mem_iff.mp ha)
  obtain ⟨p, hpm, rfl⟩ := List.mem_map.mp ha'
  obtain ⟨q, hqm, rfl⟩ := List.mem_map.mp hb
  by_cases e : p.1 = q.1
  · have : p = q := by
      obtain ⟨i, hi, rfl⟩ := List.mem_iff_getElem.mp hpm
      obtain ⟨j, hj, rfl⟩ := List.mem_iff_getElem.mp hqm
      have hpw2 := List.pairwise_iff_getElem.mp hup
      rcases Nat.lt_trichotomy i j with z | z | z
      · exact absurd e (hpw2 i j hi hj z).1
      · subst z; rfl
      · exact absurd e.symm (hpw2 j i hj hi z).1
    rw [this]
  · rw [dl_pr e] at h1
    rw [dl_pr (Ne.symm e)] at h2
    exact absurd (leS_anti h1 h2) e
/-! ### as a key -/
def prK (p : Str × List Str) : NestedKey := .tup [.text p.1, .tup (p.2.map .text)]
def stKs (s : StT Str) : List NestedKey := [.tup (s.1.map .text), .tup (s.2.map prK)]
theorem datas_map {β : Type} (f : β → NestedKey) : ∀ l : List β, NestedKey.datas (l.map f) = l.map fun x => (f x).data
  | [] => rfl
  | x :: l => by rw [List.map_cons, List.map_cons, NestedKey.datas, datas_map f l]
theorem prK_data (p : Str × List Str) : (prK p).data = prD p := by
  show PyData.tuple [.str p.1, .tuple (NestedKey.datas (p.2.map .text))] = _
  rw [datas_map]; rfl
theorem stK_data (s : StT Str) : (NestedKey.tup (stKs s)).data = stD s := by
  show PyData.tuple [.tuple (NestedKey.datas (s.1.map .text)), .tuple (NestedKey.datas (s.2.map prK))] = _
  rw [datas_map, datas_map]
  unfold stD
  congr 4
  exact List.map_congr_left fun p _ => prK_data p
theorem texts_inj : ∀ {a b : List Str}, a.map NestedKey.text = b.map NestedKey.text → a = b
  | [], [], _ => rfl
  | [], _ :: _, h => nomatch h
  | _ :: _, [], h => nomatch h
  | x :: a, y :: b, h => by
    rw [List.map_cons, List.map_cons] at h
    obtain ⟨h1, h2⟩ := List.cons.inj h
    rw [NestedKey.text.inj h1, texts_inj h2]
theorem prs_inj : ∀ {a b : List (Str × List Str)}, a.map prK = b.map prK → a = b
  | [], [], _ => rfl
  | [], _ :: _, h => nomatch h
  | _ :: _, [], h => nomatch h
  | x :: a, y :: b, h => by
    rw [List.map_cons, List.map_cons] at h
    obtain ⟨h1, h2⟩ := List.cons.inj h
    have h3 := NestedKey.tup.inj h1
    obtain ⟨h4, h5⟩ := List.cons.inj h3
    have e1 := NestedKey.text.inj h4
    have e2 := texts_inj (NestedKey.tup.inj (List.cons.inj h5).1)
    rw [prs_inj h2]
    congr 1
    exact Prod.ext e1 e2
theorem stK_inj {s t : StT Str} (h : NestedKey.tup (stKs s) = NestedKey.tup (stKs t)) : s = t := by
  have h1 := NestedKey.tup.inj h
  obtain ⟨h2, h3⟩ := List.cons.inj h1
  exact Prod.ext (texts_inj (NestedKey.tup.inj h2)) (prs_inj (NestedKey.tup.inj (List.cons.inj h3).1))
theorem depthAll_le {n : Nat} : ∀ {l : List NestedKey}, (∀ k ∈ l, k.depth ≤ n) → NestedKey.depthAll l ≤ n
  | [], _ => Nat.zero_le _
  | k :: l, h => by
    rw [NestedKey.depthAll]
    exact Nat.max_le.mpr ⟨h k List.mem_cons_self, depthAll_le fun x hx => h x (List.mem_cons_of_mem _ hx)⟩
theorem stK_depth (s : StT Str) : (NestedKey.tup (stKs s)).depth ≤ 8 := by
  have d1 : ∀ l : List Str, NestedKey.depthAll (l.map .text) ≤ 0 := fun l => depthAll_le fun k hk => by
    obtain ⟨x, _, rfl⟩ := List.mem_map.mp hk
    exact Nat.le_refl _
  have d2 : ∀ p : Str × List Str, (prK p).depth ≤ 2 := fun p => by
    have := d1 p.2
    simp [prK, NestedKey.depth, NestedKey.depthAll]
    omega
  have d3 : NestedKey.depthAll (s.2.map prK) ≤ 2 := depthAll_le fun k hk => by
    obtain ⟨x, _, rfl⟩ := List.mem_map.mp hk
    exact d2 x
  have d4 := d1 s.1
  simp [stKs, NestedKey.depth, NestedKey.depthAll]
  omega
end AF

set_option Elab.async false
set_option linter.all false
set_option maxRecDepth 100000
set_option maxHeartbeats 4000000
namespace AF
open PySem PySem.Spec PyProof.Rows L2 PySem.W
/-- the texts of a state are hands -/
def InH (hands : List Str) (s : StT Str) : Prop := (∀ x ∈ s.1, x ∈ hands) ∧ ∀ p ∈ s.2, p.1 ∈ hands ∧ ∀ x ∈ p.2, x ∈ hands
theorem rest_sub {s : StT Str} {h : Str} : ∀ p ∈ restG s h, p ∈ s.2 := fun p hp => (List.mem_filter.mp hp).1
theorem own_sub {s : StT Str} {h : Str} : ∀ p ∈ ownG s h, p ∈ s.2 := fun p hp => (List.mem_filter.mp hp).1
theorem step_in {hands : List Str} {s : StT Str} {h : Str} (i : InH hands s) (hh : h ∈ hands) : InH hands (stepG leS s h) := by
  unfold stepG
  split
  · refine ⟨fun x hx => ?_, fun p hp => ?_⟩
    · rcases List.mem_cons.mp hx with rfl | hx
      · exact hh
      · exact i.1 x hx
    · rcases List.mem_cons.mp ((insG_perm leS (h, s.1) _).mem_iff.mp hp) with rfl | hp
      · exact ⟨hh, i.1⟩
      · exact i.2 p (rest_sub p hp)
  · rename_i o _ e
    have ho : o ∈ ownG s h := by rw [e]; exact List.mem_cons_self
    exact ⟨(i.2 o (own_sub o ho)).2, fun p hp => i.2 p (rest_sub p hp)⟩
def LenS (n : Nat) (s : StT Str) : Prop := s.1.length ≤ n ∧ s.2.length ≤ n ∧ ∀ p ∈ s.2, p.2.length ≤ n
theorem step_len {n : Nat} {s : StT Str} {h : Str} (l : LenS n s) : LenS (n + 1) (stepG leS s h) := by
  obtain ⟨l1, l2, l3⟩ := l
  have hr : (restG s h).length ≤ s.2.length := List.length_filter_le _ _
  unfold stepG
  split
  · refine ⟨by simp; omega, ?_, fun p hp => ?_⟩
    · rw [(insG_perm leS (h, s.1) _).length_eq, List.length_cons]; omega
    · rcases List.mem_cons.mp ((insG_perm leS (h, s.1) _).mem_iff.mp hp) with rfl | hp
      · exact Nat.le_succ_of_le l1
      · exact Nat.le_succ_of_le (l3 p (rest_sub p hp))
  · rename_i o _ e
    have ho : o ∈ ownG s h := by rw [e]; exact List.mem_cons_self
    exact ⟨Nat.le_succ_of_le (l3 o (own_sub o ho)), Nat.le_trans hr (Nat.le_succ_of_le l2), fun p hp => Nat.le_succ_of_le (l3 p (rest_sub p hp))⟩
def wordsD (l : List (Str × List Str)) : List PyData := l.map fun p => .tuple (strsD p.2)
theorem shaped_words {l : List (Str × List Str)} (h : ∀ p ∈ l, ∀ x ∈ p.2, PyData.strOk x = true) : SeqAt.shaped (.list (wordsD l)) = true := by
  have c1 : ∀ xs : List Str, (∀ x ∈ xs, PyData.strOk x = true) → PyData.canLayAll0 (strsD xs) = true := by
    intro xs
    induction xs with
    | nil => intro _; simp [PyData.canLayAll0]
    | cons x xs ih =>
      intro hx
      show PyData.canLayAll0 (.str x :: strsD xs) = true
      rw [PyData.canLayAll0, ih fun y hy => hx y (List.mem_cons_of_mem _ hy)]
      simp [PyData.canLay0, hx x List.mem_cons_self]
  have c2 : PyData.canLayAll0 (wordsD l) = true := by
    induction l with
    | nil => simp [PyData.canLayAll0, wordsD]
    | cons p l ih =>
      show PyData.canLayAll0 (.tuple (strsD p.2) :: wordsD l) = true
      rw [PyData.canLayAll0, ih fun q hq => h q (List.mem_cons_of_mem _ hq), PyData.canLay0, c1 p.2 (h p List.mem_cons_self)]
      rfl
  have d2 : PyData.depthAll (wordsD l) ≤ 10 := by
    clear h c2
    induction l with
    | nil => simp [PyData.depthAll, wordsD]
    | cons p l ih =>
      show PyData.depthAll (.tuple (strsD p.2) :: wordsD l) ≤ 10
      rw [PyData.depthAll, PyData.depth, depth_strs]
      omega
  unfold SeqAt.shaped
  rw [PyData.canLay0, c2, PyData.depth]
  simp; omega
theorem eqv_words (l : List (Str × List Str)) : PyData.eqv (.list (wordsD l)) (.list []) = l.isEmpty := by
  cases l with
  | nil => simp [wordsD, PyData.eqv, PyData.eqvAll]
  | cons p l => simp [wordsD, PyData.eqv, PyData.eqvAll]
def C_next : Ct := fun args S e S' => ∃ (s : StT Str) (hands : List Str), args = [.d (stD s), .d (.list (strsD hands))] ∧ hands.length ≤ 100 ∧ LenS 1000 s ∧ UpG leS s.2 ∧ InH hands s ∧ (∀ h ∈ hands, PyData.strOk h = true) ∧
  e = .d (.list ((nextG leS s hands).map stD)) ∧ S' = S
section
variable {P : Program} {w : World} {K : PySem.W.Frag} {mg : Str → Option Value} {base : Heap}
theorem ok_next {f : Addr} {fd : FuncData} (F : L2.Fun K "_law_next" "_law_next" s_l_next f fd) (B : Nb mg) : FnOk P w K mg base L2.CX0 1 f fd ["_law_state", "_law_hands"] (spOf K C_next) := by
  refine fn_c F sc_l_next (fun args S e S' h => by obtain ⟨s, hands, rfl, _⟩ := h; rfl) fun cdv A outer s0 H E hr args S e S' h => ?_
  obtain ⟨s, hands, rfl, hhl, ⟨hl1, hl2, hl3⟩, hup, hin, hok, rfl, rfl⟩ := h
  have gT : ∀ {T : List Cl} {j : Nat} {c : Cl}, T[j]? = some c → (S' ++ T)[S'.length + j]? = some c := fun h => by rw [get_at]; exact h
  let N : List Str := ["_law_state", "_law_hands", "_law_word", "_law_founds", "_law_found", "_law_hand", "_law_rest", "_law_own", "_law_pair"]
  have nd := sc_l_next.nd
  let X := (cxOf L2.CX0 P w K mg base N "_law_next" (defScope s_l_next) f cdv A outer s0 H E).nox
  have hu : X.A.units + 64 < cLine := hr.units
  let wd : PyData := .tuple (strsD s.1)
  let Gb : Gm := (((startG N [.d (stD s), .d (.list (strsD hands))]).set 2 (some (.d wd))).set 3 (some (.d (.tuple (s.2.map prD))))).set 4 (some (.p S'.length))
  let St : List PyData → List Cl := fun acc => S' ++ [.lst (acc.map .d)]
  have turn : ∀ (h : Str) (acc : List PyData), h ∈ hands → acc.length ≤ 1000 →
      DB X (Gb.set 5 (some (.d (.str h)))) (St acc) (fBody (stAt s_l_next 2)) (.nx (((Gb.set 5 (some (.d (.str h)))).set 6 (some (.d (.tuple ((restG s h).map prD))))).set 7 (some (.d (.list (wordsD (ownG s h)))))) (St (acc ++ [stD (stepG leS s h)]))) := by
    intro h acc hh hacc
    let G5 : Gm := Gb.set 5 (some (.d (.str h)))
    let G6 : Gm := G5.set 6 (some (.d (.tuple ((restG s h).map prD))))
    let G7 : Gm := G6.set 7 (some (.d (.list (wordsD (ownG s h)))))
    have hrl : (restG s h).length ≤ s.2.length := List.length_filter_le _ _
    have hol : (ownG s h).length ≤ s.2.length := List.length_filter_le _ _
    have hlo : ∀ {T T' : List Cl}, T.length = T'.length → (∀ n, T'.all (Cl.lo n) = true) → ((S' ++ T).all (Cl.lo (S' ++ T).length) = true → (S' ++ T').all (Cl.lo (S' ++ T').length) = true) := fun {T T'} hl hT hz => by
      rw [List.length_append] at hz ⊢
      rw [← hl]
      rw [List.all_append, Bool.and_eq_true] at hz ⊢
      exact ⟨hz.1, hT _⟩
    have cell1 : ∀ (acc : List PyData) (T : List Cl), (S' ++ (Cl.lst (acc.map .d) :: T))[S'.length]? = some (.lst (acc.map .d)) := fun acc T => by
      have := gT (T := Cl.lst (acc.map .d) :: T) (j := 0) rfl
      simpa using this
    have fin : ∀ {t : StT Str} (T : List Cl), (S' ++ (Cl.lst (acc.map .d) :: T)).set S'.length (.lst (acc.map .d ++ [.d (stD t)])) = St (acc ++ [stD t]) ++ T := fun {t} T => by
      have := set_at (S := S') (T := Cl.lst (acc.map .d) :: T) (j := 0) (c := .lst (acc.map .d ++ [.d (stD t)]))
      rw [Nat.add_zero] at this
      rw [this]; simp [St]
    refine db_dropE (S1 := St (acc ++ [stD (stepG leS s h)])) (T := [.gone, .lst []]) ?_ (And.intro (by simp [St]) trivial) (hlo (by simp) fun n => by simp [Cl.lo, En.lo]) (by simp [St])
    refine db_cons (G1 := G6) (S1 := St acc) (ds_set (i := 6) (de_dropS (S := St acc) (T := [.lst (((restG s h).map prD).map .d)]) (de_tuple (B.of "tuple") (.l (.c get_last)) (LC.pe <| lc_fB (own := [("_law_pair", 8)]) (ix := [8]) (f := fun e G => G.set 8 (some e)) (bs := s.2) (Str.empty, []) prD (fun p => !decide (p.1 = h)) prD rfl nd (di_tup (dv 3 rfl))
      (blkOk_by (own := [("_law_pair", 8)]) (N := N) (sc := defScope s_l_next) (by decide +kernel)) (fun _ _ _ _ _ => pg_name (i := 8) nd rfl (Or.inl rfl)) (fun _ _ => tg_name) (by decide) (by omega)
      (fun p _ s H C cl fp => dt_cmp op_ne rv_neS (de_ixT (ds := [.str p.1, .tuple (strsD p.2)]) (j := 0) rfl rfl (dv 8 rfl) de_int) (dv 5 rfl)) (fun p _ _ s H C cl fp => dv 8 rfl)))) nd) ?_
    refine db_cons (G1 := G6.set 7 (some (.p (S'.length + 1)))) (S1 := S' ++ [.lst (acc.map .d), .lst ((wordsD (ownG s h)).map .d)]) (ds_setLc (i := 7) (LC.to (lc_fB (own := [("_law_pair", 8)]) (ix := [8]) (f := fun e G => G.set 8 (some e)) (bs := s.2) (Str.empty, []) prD (fun p => decide (p.1 = h)) (fun p => .tuple (strsD p.2)) rfl nd (di_tup (dv 3 rfl))
      (blkOk_by (own := [("_law_pair", 8)]) (N := N) (sc := defScope s_l_next) (by decide +kernel)) (fun _ _ _ _ _ => pg_name (i := 8) nd rfl (Or.inl rfl)) (fun _ _ => tg_name) (by decide) (by omega)
      (fun p _ s H C cl fp => dt_cmp op_eq rv_eqS (de_ixT (ds := [.str p.1, .tuple (strsD p.2)]) (j := 0) rfl rfl (dv 8 rfl) de_int) (dv 5 rfl)) (fun p _ _ s H C cl fp => de_ixT (ds := [.str p.1, .tuple (strsD p.2)]) (j := 1) rfl rfl (dv 8 rfl) de_int)) (by simp [St]) (by simp [St, wordsD, ownG]))) ?_
    refine db_frz (j := 7) (i := S'.length + 1) (ds := wordsD (ownG s h)) rfl (gT rfl) ?_
    have e7 : (S' ++ [Cl.lst (acc.map .d), Cl.lst ((wordsD (ownG s h)).map .d)]).set (S'.length + 1) .gone = S' ++ [Cl.lst (acc.map .d), .gone] := by rw [set_at]; rfl
    rw [e7]
    show DB X G7 _ _ _
    · refine db_one (ds_if (S1 := S' ++ [Cl.lst (acc.map .d), .gone, .lst []]) (dt_cmp (op_eqD hu) (rv_eqD (y := .p (S'.length + 2)) .d (.c (ds := []) (gT rfl)) (shaped_words fun p hp x hx => hok x ((hin.2 p (own_sub p hp)).2 x hx)) rfl) (dv 7 rfl) (de_to (de_lst da_nil (Nat.zero_le _)) (by simp) (by simp))) (fun hb => ?_) (fun hb => ?_))
      · rw [eqv_words] at hb
        have eo : ownG s h = [] := List.isEmpty_iff.mp hb
        have es : stepG leS s h = (h :: s.1, insG leS (h, s.1) (restG s h)) := by unfold stepG; rw [eo]
        rw [es]
        refine db_one (ds_to (ds_expr (de_append (i := S'.length) (cell1 acc [.gone, .lst []]) (by simp; omega) (dv 4 rfl) ⟨_, cell1 acc [.gone, .lst []]⟩ (de_tup (ds := [.tuple (strsD (h :: s.1)), .tuple ((insG leS (h, s.1) (restG s h)).map prD)]) (da_cons
          (de_bin op_catA (rv_catT (ds := [.str h]) (es := strsD s.1) (by simp; omega)) (de_tup (ds := [.str h]) (da_cons (dv 5 rfl) da_nil) (Nat.le_of_ble_eq_true rfl)) (dv 2 rfl))
          (da_cons (de_dropS (T := [.lst (((insG leS (h, s.1) (restG s h)).map prD).map .d)]) (de_tuple (B.of "tuple") (.l (.c get_last)) (de_to (de_sortT hu (B.of "sorted") (ds := (restG s h).map prD ++ [prD (h, s.1)]) ?_ ?_ ?_
            (de_bin op_catA (rv_catT (ds := (restG s h).map prD) (es := [prD (h, s.1)]) (by simp; omega)) (dv 6 rfl) (de_tup (ds := [prD (h, s.1)]) (da_cons (de_tup (ds := [.str h, .tuple (strsD s.1)]) (da_cons (dv 5 rfl) (da_cons (dv 2 rfl) da_nil)) (Nat.le_of_ble_eq_true rfl)) da_nil) (Nat.le_of_ble_eq_true rfl)))) rfl (by rw [sort_pr (x := (h, s.1)) (up_rest hup) rest_ne]))))
          da_nil)) (Nat.le_of_ble_eq_true rfl)))) (congrArg (Out.nx G7) (fin (t := (h :: s.1, insG leS (h, s.1) (restG s h))) [.gone, .lst []])))
        · intro d hd d' hd'
          have hg : ∀ d ∈ (restG s h).map prD ++ [prD (h, s.1)], ∃ p, d = prD p := fun d hd => by
            rcases List.mem_append.mp hd with z | z
            · obtain ⟨p, _, rfl⟩ := List.mem_map.mp z; exact ⟨p, rfl⟩
            · exact ⟨_, List.mem_singleton.mp z⟩
          obtain ⟨p, rfl⟩ := hg d hd
          obtain ⟨q, rfl⟩ := hg d' hd'
          exact alike_pr p q
        · refine .inl fun d hd => ?_
          rcases List.mem_append.mp hd with z | z
          · obtain ⟨p, _, rfl⟩ := List.mem_map.mp z; exact ⟨_, _, rfl⟩
          · exact ⟨_, _, List.mem_singleton.mp z⟩
        · intro d hd
          rcases List.mem_append.mp hd with z | z
          · obtain ⟨p, _, rfl⟩ := List.mem_map.mp z; exact depth_pr p
          · rw [List.mem_singleton.mp z]; exact depth_pr _
      · rw [eqv_words] at hb
        obtain ⟨o, os, eo⟩ : ∃ o os, ownG s h = o :: os := by
          cases q : ownG s h with
          | nil => rw [q] at hb; cases hb
          | cons o os => exact ⟨o, os, rfl⟩
        have es : stepG leS s h = (o.2, restG s h) := by unfold stepG; rw [eo]
        rw [es]
        exact db_one (ds_to (ds_expr (de_append (i := S'.length) (cell1 acc [.gone, .lst []]) (by simp; omega) (dv 4 rfl) ⟨_, cell1 acc [.gone, .lst []]⟩ (de_tup (ds := [.tuple (strsD o.2), .tuple ((restG s h).map prD)]) (da_cons
          (de_ixL (xs := (wordsD (ownG s h)).map .d) (j := 0) (e := .d (.tuple (strsD o.2))) .d (by rw [eo]; exact ixN_nat (by simp [wordsD])) (by rw [eo]; rfl) (dv 7 rfl) de_int) (da_cons (dv 6 rfl) da_nil)) (Nat.le_of_ble_eq_true rfl)))) (congrArg (Out.nx G7) (fin (t := (o.2, restG s h)) [.gone, .lst []])))
  have loop : ∀ (hs : List Str) (acc : List PyData), (∀ h ∈ hs, h ∈ hands) → acc.length + hs.length ≤ 1000 →
      Fo X (fun e G => G.set 5 (some e)) (fBody (stAt s_l_next 2)) ((strsD hs).map En.d) Gb (St acc) (.nx Gb (St (acc ++ (hs.map (stepG leS s)).map stD))) := by
    intro hs
    induction hs with
    | nil => intro acc _ _; simpa using Fo.nil (X := X) (f := fun e G => G.set 5 (some e)) (body := fBody (stAt s_l_next 2)) (G := Gb) (S := St acc)
    | cons h hs ih =>
      intro acc hh hl
      rw [List.length_cons] at hl
      have e0 : acc ++ ((h :: hs).map (stepG leS s)).map stD = (acc ++ [stD (stepG leS s h)]) ++ (hs.map (stepG leS s)).map stD := by simp
      rw [e0]
      exact .cons (G1 := Gb) (S1 := St (acc ++ [stD (stepG leS s h)])) (turn h acc (hh h List.mem_cons_self) (by omega)) ⟨(((Gb.set 5 (some (.d (.str h)))).set 6 (some (.d (.tuple ((restG s h).map prD))))).set 7 (some (.d (.list (wordsD (ownG s h)))))), LeB.le (And.intro rfl (And.intro rfl (And.intro rfl (And.intro rfl (And.intro rfl trivial))))), .inl rfl⟩
        (ih (acc ++ [stD (stepG leS s h)]) (fun y hy => hh y (List.mem_cons_of_mem _ hy)) (by simp; omega))
  have lp := loop hands [] (fun _ h => h) (by simp; omega)
  rw [List.nil_append] at lp
  have h2 : DS X Gb (St []) (stAt s_l_next 2) (.nx Gb (St ((nextG leS s hands).map stD))) :=
    ds_fo (tg := fTg (stAt s_l_next 2)) (iter := fIter (stAt s_l_next 2)) (body := fBody (stAt s_l_next 2)) (g := gName 5) (ix := [5]) lp PassesOwn.never rfl (di_list (dv 1 rfl)) (Le.refl _) (pg_name (i := 5) nd rfl (Or.inr rfl)) (fun e _ => tg_name)
  have tail : DB X Gb (St ((nextG leS s hands).map stD)) ((defBody s_l_next).drop 3) (.rt (.d (.list ((nextG leS s hands).map stD))) (S' ++ [Cl.gone])) := by
    refine db_frz (j := 4) (i := S'.length) (ds := (nextG leS s hands).map stD) rfl get_last ?_
    have e : (St ((nextG leS s hands).map stD)).set S'.length .gone = S' ++ [.gone] := by simp [St]
    rw [e]
    exact db_one (ds_ret (dv 4 rfl))
  refine ⟨.rt (.d (.list ((nextG leS s hands).map stD))) (S' ++ [Cl.gone]), db_cons (ds_unp (x := .d (stD s)) (pg_tup rfl (pgs_cons (pg_name (i := 2) nd rfl (Or.inl rfl)) (pgs_cons (pg_name (i := 3) nd rfl (Or.inl rfl)) pgs_nil))) (tg_tup2 tg_name tg_name) (dv 0 rfl))
    (db_cons (G1 := Gb) (S1 := St []) (ds_set (i := 4) (de_lst da_nil (Nat.zero_le _)) nd) (db_cons (st := stAt s_l_next 2) h2 tail)), Fin.rtd⟩
end
end AF

set_option Elab.async false
set_option linter.all false
set_option maxRecDepth 100000
set_option maxHeartbeats 4000000
/-! the search by levels -/
namespace AF
section
variable {σ : Type} [DecidableEq σ] (nx : σ → List σ) (goal : σ)
def seeG (kn : List σ × List σ) (o : σ) : List σ × List σ := if o ∈ kn.1 then kn else (kn.1 ++ [o], kn.2 ++ [o])
def lvlG (kn : List σ × List σ) (level : List σ) : List σ × List σ := level.foldl (fun kl s => (nx s).foldl seeG kl) kn
def bfsG : Nat → Nat → List σ → List σ → Option Nat
  | 0, _, _, _ => none
  | f + 1, m, level, known => if goal ∈ known then some m else bfsG f (m + 1) (lvlG nx (known, []) level).2 (lvlG nx (known, []) level).1
theorem see_len (kl : List σ × List σ) (l : List σ) : (l.foldl seeG kl).1.length ≤ kl.1.length + l.length ∧ (l.foldl seeG kl).2.length ≤ kl.2.length + l.length := by
  induction l generalizing kl with
  | nil => exact ⟨Nat.le_refl _, Nat.le_refl _⟩
  | cons o l ih =>
    rw [List.foldl_cons]
    obtain ⟨h1, h2⟩ := ih (seeG kl o)
    have h3 : (seeG kl o).1.length ≤ kl.1.length + 1 ∧ (seeG kl o).2.length ≤ kl.2.length + 1 := by
      unfold seeG
      split
      · exact ⟨Nat.le_succ _, Nat.le_succ _⟩
      · simp
    rw [List.length_cons]
    omega
variable {nx} in
theorem lvl_len {n : Nat} (hn : ∀ s, (nx s).length ≤ n) (kl : List σ × List σ) (l : List σ) : (lvlG nx kl l).1.length ≤ kl.1.length + l.length * n ∧ (lvlG nx kl l).2.length ≤ kl.2.length + l.length * n := by
  induction l generalizing kl with
  | nil => exact ⟨Nat.le_add_right _ _, Nat.le_add_right _ _⟩
  | cons s l ih =>
    obtain ⟨h1, h2⟩ := ih ((nx s).foldl seeG kl)
    obtain ⟨h3, h4⟩ := see_len kl (nx s)
    have h5 := hn s
    have e : lvlG nx kl (s :: l) = lvlG nx ((nx s).foldl seeG kl) l := rfl
    rw [e, List.length_cons, Nat.succ_mul]
    omega
theorem see_mem {kl : List σ × List σ} {l : List σ} {x : σ} : (x ∈ (l.foldl seeG kl).1 ↔ x ∈ kl.1 ∨ x ∈ l) ∧ (x ∈ (l.foldl seeG kl).2 ↔ x ∈ kl.2 ∨ (x ∈ l ∧ x ∉ kl.1)) := by
  induction l generalizing kl with
  | nil => simp
  | cons o l ih =>
    rw [List.foldl_cons]
    obtain ⟨h1, h2⟩ := ih (kl := seeG kl o)
    rw [h1, h2]
    unfold seeG
    by_cases q : o ∈ kl.1
    · rw [if_pos q]
      refine ⟨⟨fun z => z.elim .inl fun z => .inr (List.mem_cons_of_mem _ z), fun z => z.elim .inl fun z => ?_⟩, ⟨fun z => z.elim .inl fun z => .inr ⟨List.mem_cons_of_mem _ z.1, z.2⟩, fun z => z.elim .inl fun z => ?_⟩⟩
      · rcases List.mem_cons.mp z with rfl | z
        · exact .inl q
        · exact .inr z
      · rcases List.mem_cons.mp z.1 with rfl | y
        · exact absurd q z.2
        · exact .inr ⟨y, z.2⟩
    · rw [if_neg q]
      simp only [List.mem_append, List.mem_singleton, List.mem_cons, List.not_mem_nil, or_false]
      refine ⟨⟨fun z => ?_, fun z => ?_⟩, ⟨fun z => ?_, fun z => ?_⟩⟩
      · rcases z with (z | z) | z
        · exact .inl z
        · exact .inr (.inl z)
        · exact .inr (.inr z)
      · rcases z with z | z | z
        · exact .inl (.inl z)
        · exact .inl (.inr z)
        · exact .inr z
      · rcases z with (z | z) | z
        · exact .inl z
        · subst z; exact .inr ⟨.inl rfl, q⟩
        · exact .inr ⟨.inr z.1, fun y => z.2 (.inl y)⟩
      · rcases z with z | ⟨z | z, y⟩
        · exact .inl (.inl z)
        · exact .inl (.inr z)
        · by_cases e : x = o
          · exact .inl (.inr e)
          · exact .inr ⟨z, fun w => w.elim y e⟩
theorem lvl_mem {kl : List σ × List σ} {l : List σ} {x : σ} : x ∈ (lvlG nx kl l).1 ↔ x ∈ kl.1 ∨ ∃ s ∈ l, x ∈ nx s := by
  induction l generalizing kl with
  | nil => simp [lvlG]
  | cons s l ih =>
    have e : lvlG nx kl (s :: l) = lvlG nx ((nx s).foldl seeG kl) l := rfl
    rw [e, ih, see_mem.1]
    simp only [List.mem_cons]
    constructor
    · rintro ((z | z) | ⟨t, h1, h2⟩)
      · exact .inl z
      · exact .inr ⟨s, .inl rfl, z⟩
      · exact .inr ⟨t, .inr h1, h2⟩
    · rintro (z | ⟨t, rfl | h1, h2⟩)
      · exact .inl (.inl z)
      · exact .inl (.inr h2)
      · exact .inr ⟨t, h1, h2⟩
/-- what is later has been seen; what was seen is known already or is later -/
theorem lvl_later {kl : List σ × List σ} {l : List σ} (h : ∀ x ∈ kl.2, x ∈ kl.1) (x : σ) : (x ∈ (lvlG nx kl l).2 → x ∈ kl.2 ∨ ∃ s ∈ l, x ∈ nx s) ∧ (x ∈ (lvlG nx kl l).1 → x ∈ kl.1 ∨ x ∈ (lvlG nx kl l).2) := by
  induction l generalizing kl with
  | nil => exact ⟨fun z => .inl z, fun z => .inl z⟩
  | cons s l ih =>
    have e : lvlG nx kl (s :: l) = lvlG nx ((nx s).foldl seeG kl) l := rfl
    rw [e]
    have h' : ∀ x ∈ ((nx s).foldl seeG kl).2, x ∈ ((nx s).foldl seeG kl).1 := fun x hx => by
      rw [see_mem.1]
      rcases see_mem.2.mp hx with z | z
      · exact .inl (h x z)
      · exact .inr z.1
    obtain ⟨h1, h2⟩ := ih h'
    refine ⟨fun z => ?_, fun z => ?_⟩
    · rcases h1 z with z | ⟨t, a, b⟩
      · rcases see_mem.2.mp z with z | z
        · exact .inl z
        · exact .inr ⟨s, List.mem_cons_self, z.1⟩
      · exact .inr ⟨t, List.mem_cons_of_mem _ a, b⟩
    · rcases h2 z with z | z
      · rcases see_mem.1.mp z with z | z
        · exact .inl z
        · by_cases q : x ∈ kl.1
          · exact .inl q
          · right
            have keep : ∀ (l : List σ) (kl : List σ × List σ), x ∈ kl.2 → x ∈ (lvlG nx kl l).2 := by
              intro l
              induction l with
              | nil => intro kl h; exact h
              | cons s l ih => intro kl h; exact ih _ (see_mem.2.mpr (.inl h))
            exact keep l _ (see_mem.2.mpr (.inr ⟨z, q⟩))
      · exact .inr z
/-- reached in n steps -/
def Rch (s0 : σ) : Nat → σ → Prop
  | 0, x => x = s0
  | n + 1, x => ∃ y, Rch s0 n y ∧ x ∈ nx y
structure Lv (s0 : σ) (m : Nat) (level known : List σ) : Prop where
  kn : ∀ x, x ∈ known ↔ ∃ k, k ≤ m ∧ Rch nx s0 k x
  lv : ∀ x ∈ level, x ∈ known
  don : ∀ x ∈ known, x ∉ level → ∀ y ∈ nx x, y ∈ known
theorem Lv.start (s0 : σ) : Lv nx s0 0 [s0] [s0] := ⟨fun x => ⟨fun h => ⟨0, Nat.le_refl _, List.mem_singleton.mp h⟩, fun ⟨k, hk, h⟩ => by
  obtain rfl : k = 0 := by omega
  exact List.mem_singleton.mpr h⟩, fun _ h => h, fun _ h h' => absurd h h'⟩
theorem Lv.next {s0 : σ} {m : Nat} {level known : List σ} (h : Lv nx s0 m level known) : Lv nx s0 (m + 1) (lvlG nx (known, []) level).2 (lvlG nx (known, []) level).1 := by
  have hn : ∀ x ∈ known, ∀ y ∈ nx x, y ∈ (lvlG nx (known, []) level).1 := fun x hx y hy => by
    rw [lvl_mem]
    by_cases q : x ∈ level
    · exact .inr ⟨x, q, hy⟩
    · exact .inl (h.don x hx q y hy)
  refine ⟨fun x => ⟨fun hx => ?_, fun ⟨k, hk, hx⟩ => ?_⟩, fun x hx => ?_, fun x hx hxl y hy => ?_⟩
  · rw [lvl_mem] at hx
    rcases hx with hx | ⟨s, hs, hx⟩
    · obtain ⟨k, hk, r⟩ := (h.kn x).mp hx
      exact ⟨k, by omega, r⟩
    · obtain ⟨k, hk, r⟩ := (h.kn s).mp (h.lv s hs)
      exact ⟨k + 1, by omega, s, r, hx⟩
  · cases k with
    | zero => rw [lvl_mem]; exact .inl ((h.kn x).mpr ⟨0, Nat.zero_le _, hx⟩)
    | succ k =>
      obtain ⟨y, hy, hxy⟩ := hx
      exact hn y ((h.kn y).mpr ⟨k, by omega, hy⟩) x hxy
  · rw [lvl_mem]
    rcases (lvl_later nx (kl := (known, [])) (l := level) (fun _ z => nomatch z) x).1 hx with z | z
    · cases z
    · exact .inr z
  · rcases (lvl_later nx (kl := (known, [])) (l := level) (fun _ z => nomatch z) x).2 hx with z | z
    · exact hn x z y hy
    · exact absurd z hxl
/-- the search finds the least number of steps -/
theorem bfs_least {s0 : σ} {d : Nat} (hd : Rch nx s0 d goal) (hl : ∀ k, k < d → ¬ Rch nx s0 k goal) : ∀ (f m : Nat) (level known : List σ), Lv nx s0 m level known → m ≤ d → d < m + f → bfsG nx goal f m level known = some d
  | 0, m, level, known, _, h1, h2 => by omega
  | f + 1, m, level, known, L, h1, h2 => by
    unfold bfsG
    by_cases q : goal ∈ known
    · rw [if_pos q]
      obtain ⟨k, hk, r⟩ := (L.kn goal).mp q
      by_cases z : m = d
      · rw [z]
      · exact absurd r (hl k (by omega))
    · rw [if_neg q]
      have hm : m ≠ d := fun e => q ((L.kn goal).mpr ⟨d, by omega, hd⟩)
      exact bfs_least hd hl f (m + 1) _ _ (L.next) (by omega) (by omega)
end
end AF

set_option Elab.async false
set_option linter.all false
set_option maxRecDepth 100000
set_option maxHeartbeats 4000000
namespace AF
open PySem PySem.Spec PyProof.Rows L2 PySem.W
def optD : Option Nat → PyData
  | none => .none
  | some n => .int (n : Nat)
abbrev nxS (hands : List Str) : StT Str → List (StT Str) := fun s => nextG leS s hands
abbrev s00 : StT Str := ([], [])
def leastM (names hands : List Str) (most : Nat) : Option Nat := bfsG (nxS hands) (names, []) (most + 1) 0 [s00] [s00]
def C_least : Ct := fun args S e S' => ∃ (names hands : List Str) (most : Nat), args = [.d (.list (strsD names)), .d (.list (strsD hands)), .d (.int (most : Nat))] ∧ 2 ≤ hands.length ∧ hands.length ≤ 100 ∧ hands.length ^ (most + 1) ≤ 300000 ∧ most ≤ 900 ∧ names.length ≤ 1000 ∧
  (∀ h ∈ hands, PyData.strOk h = true) ∧ e = .d (optD (leastM names hands most)) ∧ S' = S
def stE (s : StT Str) : NestedKey × En := (.tup (stKs s), .d (.bool true))
theorem stE_mem {s : StT Str} {kn : List (StT Str)} : decide (NestedKey.tup (stKs s) ∈ (kn.map stE).map (·.1)) = decide (s ∈ kn) := by
  rw [Bool.eq_iff_iff, decide_eq_true_iff, decide_eq_true_iff, List.map_map]
  refine ⟨fun h => ?_, fun h => List.mem_map.mpr ⟨s, h, rfl⟩⟩
  obtain ⟨t, ht, e⟩ := List.mem_map.mp h
  rw [← stK_inj (s := t) (t := s) e]; exact ht
def rngF (m f : Nat) : List En := (List.range' m f).map fun k => En.d (.int (k : Nat))
theorem rngF_range {n : Nat} : rangeE 0 n = rngF 0 n := by
  unfold rangeE rngF
  rw [List.range_eq_range']
  exact List.map_congr_left fun k _ => by simp
section
variable {P : Program} {w : World} {K : PySem.W.Frag} {mg : Str → Option Value} {base : Heap}
theorem ok_least {f : Addr} {fd : FuncData} (F : L2.Fun K "_law_least" "_law_least" s_l_least f fd) (B : Nb mg) (Dn : Df P w K mg base 1 "_law_next" [] C_next) : FnOk P w K mg base L2.CX0 2 f fd ["_law_names_here", "_law_hands", "_law_most"] (spOf K C_least) := by
  refine fn_c F sc_l_least (fun args S e S' h => by obtain ⟨names, hands, most, rfl, _⟩ := h; rfl) fun cdv A outer s0 H E hr args S e S' h => ?_
  obtain ⟨names, hands, most, rfl, hh2, hhl, hpow, hmost, hnl, hok, rfl, rfl⟩ := h
  have gT : ∀ {T : List Cl} {j : Nat} {c : Cl}, T[j]? = some c → (S' ++ T)[S'.length + j]? = some c := fun h => by rw [get_at]; exact h
  let N : List Str := ["_law_names_here", "_law_hands", "_law_most", "_law_level", "_law_known", "_law_many", "_law_later", "_law_state", "_law_other"]
  have nd := sc_l_least.nd
  let X := (cxOf L2.CX0 P w K mg base N "_law_least" (defScope s_l_least) f cdv A outer s0 H E).nox
  have hu : X.A.units + 64 < cLine := hr.units
  let G0 : Gm := startG N [.d (.list (strsD names)), .d (.list (strsD hands)), .d (.int (most : Nat))]
  let Gb : List (StT Str) → Gm := fun level => (G0.set 3 (some (.d (.list (level.map stD))))).set 4 (some (.p (S'.length + 1)))
  let St : List (StT Str) → List Cl := fun kn => S' ++ [.gone, kdC P w (kn.map stE)]
  let Sm : List (StT Str) × List (StT Str) → List Cl := fun kl => S' ++ [.gone, kdC P w (kl.1.map stE), .lst ((kl.2.map stD).map .d)]
  let Gm' : List (StT Str) → Nat → Gm := fun level m => ((Gb level).set 5 (some (.d (.int (m : Nat))))).set 6 (some (.p (S'.length + 2)))
  let fB : List Stmt := fBody (stAt s_l_least 1)
  let midS : Stmt := inAt fB 2
  let inS : Stmt := inAt (fBody midS) 0
  -- one more state seen
  have see : ∀ (level : List (StT Str)) (m : Nat) (s o : StT Str) (kl : List (StT Str) × List (StT Str)), kl.1.length + 1 ≤ 999999 → kl.2.length + 1 ≤ 999999 →
      DB X (((Gm' level m).set 7 (some (.d (stD s)))).set 8 (some (.d (stD o)))) (Sm kl) (fBody inS) (.nx (((Gm' level m).set 7 (some (.d (stD s)))).set 8 (some (.d (stD o)))) (Sm (seeG kl o))) := by
    intro level m s o kl h1 h2
    refine db_one (ds_if (S1 := Sm kl) (t := !decide (o ∈ kl.1)) ?_ (fun hb => ?_) (fun hb => ?_))
    · exact dt_to (dt_cmp (op_ninK hu) (rv_inK (P := P) (w := w) (S := Sm kl) (i := S'.length + 1) (L := kl.1.map stE) (ks := stKs o) (n := true) (gT rfl) (stK_depth o)) (de_to (dv 8 rfl) (by rw [stK_data]) rfl) (dv 4 rfl)) (by rw [stE_mem]; simp) rfl
    · have hno : o ∉ kl.1 := by simpa using hb
      have es : seeG kl o = (kl.1 ++ [o], kl.2 ++ [o]) := by unfold seeG; rw [if_neg hno]
      rw [es]
      refine db_cons (G1 := ((Gm' level m).set 7 (some (.d (stD s)))).set 8 (some (.d (stD o)))) (S1 := S' ++ [.gone, kdC P w ((kl.1 ++ [o]).map stE), .lst ((kl.2.map stD).map .d)]) (ds_to (ds_putK (i := S'.length + 1) (L := kl.1.map stE) (ks := stKs o) (S3 := Sm kl) hu (gT rfl) (stK_depth o) ?_ (by simp; omega) (de_bool) (dv 4 rfl) (de_to (dv 8 rfl) (by rw [stK_data]) rfl)) ?_)
        (db_one (ds_to (ds_expr (de_append (i := S'.length + 2) (xs := (kl.2.map stD).map .d) (x := .d (stD o)) (S2 := S' ++ [.gone, kdC P w ((kl.1 ++ [o]).map stE), .lst ((kl.2.map stD).map .d)]) (gT rfl) (by simp; omega) (dv 6 rfl) ⟨_, gT rfl⟩ (dv 8 rfl))) ?_))
      · intro z
        have := decide_eq_true z
        rw [stE_mem] at this
        exact hno (of_decide_eq_true this)
      · refine congrArg (Out.nx _) ?_
        rw [set_at]
        simp [stE]
        rfl
      · refine congrArg (Out.nx _) ?_
        rw [set_at]
        simp [Sm]
    · have hin : o ∈ kl.1 := by simpa using hb
      have es : seeG kl o = kl := by unfold seeG; rw [if_pos hin]
      rw [es]
      exact db_nil
  have inner : ∀ (level : List (StT Str)) (m : Nat) (s : StT Str) (l : List (StT Str)) (kl : List (StT Str) × List (StT Str)), kl.1.length + l.length ≤ 999999 → kl.2.length + l.length ≤ 999999 →
      Fo X (fun e G => G.set 8 (some e)) (fBody inS) ((l.map stD).map En.d) ((Gm' level m).set 7 (some (.d (stD s)))) (Sm kl) (.nx ((Gm' level m).set 7 (some (.d (stD s)))) (Sm (l.foldl seeG kl))) := by
    intro level m s l
    induction l with
    | nil => intro kl _ _; exact .nil
    | cons o l ih =>
      intro kl h1 h2
      rw [List.length_cons] at h1 h2
      obtain ⟨h3, h4⟩ := see_len kl [o]
      have h3' : (seeG kl o).1.length ≤ kl.1.length + 1 := h3
      have h4' : (seeG kl o).2.length ≤ kl.2.length + 1 := h4
      exact .cons (G1 := (Gm' level m).set 7 (some (.d (stD s)))) (S1 := Sm (seeG kl o)) (see level m s o kl (by omega) (by omega)) ⟨((Gm' level m).set 7 (some (.d (stD s)))).set 8 (some (.d (stD o))), LeB.le (And.intro rfl (And.intro rfl (And.intro rfl (And.intro rfl (And.intro rfl (And.intro rfl (And.intro rfl (And.intro rfl trivial)))))))), .inl rfl⟩
        (ih (seeG kl o) (by omega) (by omega))
  have middle : ∀ (level : List (StT Str)) (m : Nat) (l : List (StT Str)) (kl : List (StT Str) × List (StT Str)), (∀ s ∈ l, LenS 1000 s ∧ UpG leS s.2 ∧ InH hands s) → kl.1.length + l.length * hands.length ≤ 999999 → kl.2.length + l.length * hands.length ≤ 999999 →
      Fo X (fun e G => G.set 7 (some e)) (fBody midS) ((l.map stD).map En.d) (Gm' level m) (Sm kl) (.nx (Gm' level m) (Sm (lvlG (nxS hands) kl l))) := by
    intro level m l
    induction l with
    | nil => intro kl _ _ _; exact .nil
    | cons s l ih =>
      intro kl hs h1 h2
      obtain ⟨q1, q2, q3⟩ := hs s List.mem_cons_self
      rw [List.length_cons, Nat.succ_mul] at h1 h2
      have hnl : (nxS hands s).length = hands.length := by simp [nxS, nextG]
      obtain ⟨h3, h4⟩ := see_len kl (nxS hands s)
      rw [hnl] at h3 h4
      have hin : DS X ((Gm' level m).set 7 (some (.d (stD s)))) (Sm kl) inS (.nx ((Gm' level m).set 7 (some (.d (stD s)))) (Sm ((nxS hands s).foldl seeG kl))) :=
        ds_fo (tg := fTg inS) (iter := fIter inS) (body := fBody inS) (g := gName 8) (ix := [8]) (inner level m s (nxS hands s) kl (by rw [hnl]; omega) (by rw [hnl]; omega)) PassesOwn.never rfl
          (di_list (de_call Dn hr (by decide) ⟨s, hands, rfl, hhl, q1, q2, q3, hok, rfl, rfl⟩ (da_cons (dv 7 rfl) (da_cons (dv 1 rfl) da_nil)))) (Le.refl _) (pg_name (i := 8) nd rfl (Or.inl rfl)) (fun e _ => tg_name)
      exact .cons (G1 := Gm' level m) (S1 := Sm ((nxS hands s).foldl seeG kl)) (db_one (st := inS) hin) ⟨(Gm' level m).set 7 (some (.d (stD s))), LeB.le (And.intro rfl (And.intro rfl (And.intro rfl (And.intro rfl (And.intro rfl (And.intro rfl (And.intro rfl trivial))))))), .inl rfl⟩
        (ih _ (fun t ht => hs t (List.mem_cons_of_mem _ ht)) (by omega) (by omega))
  have hnx : ∀ s, (nxS hands s).length ≤ hands.length := fun s => by simp [nxS, nextG]
  have turn : ∀ (level kn : List (StT Str)) (m : Nat), (∀ s ∈ level, LenS 1000 s ∧ UpG leS s.2 ∧ InH hands s) → kn.length + level.length * hands.length ≤ 999999 → (names, []) ∉ kn →
      DB X ((Gb level).set 5 (some (.d (.int (m : Nat))))) (St kn) fB (.nx (Gb (lvlG (nxS hands) (kn, []) level).2) (St (lvlG (nxS hands) (kn, []) level).1)) := by
    intro level kn m hlv hb1 hgo
    generalize hr2 : lvlG (nxS hands) (kn, []) level = r
    let G5 : Gm := (Gb level).set 5 (some (.d (.int (m : Nat))))
    have hmid : DS X (Gm' level m) (Sm (kn, [])) midS (.nx (Gm' level m) (Sm r)) := by
      rw [← hr2]
      exact ds_fo (tg := fTg midS) (iter := fIter midS) (body := fBody midS) (g := gName 7) (ix := [7]) (middle level m level (kn, []) hlv hb1 (by simp; omega)) PassesOwn.never rfl (di_list (dv 3 rfl)) (Le.refl _) (pg_name (i := 7) nd rfl (Or.inl rfl)) (fun e _ => tg_name)
    refine db_dropE (S1 := St r.1) (T := [.gone]) (G2 := ((Gm' level m).set 3 (some (.p (S'.length + 2)))).set 3 (some (.d (.list (r.2.map stD))))) ?_ (And.intro (by simp [St]) trivial) ?_ (by simp [St]) (LeB.le (And.intro rfl (And.intro rfl (And.intro rfl (And.intro rfl (And.intro rfl trivial))))))
    · refine db_cons (G1 := G5) (S1 := St kn) (ds_if (S1 := St kn) (t := false) (dt_to (dt_cmp (op_inK hu) (rv_inK (P := P) (w := w) (S := St kn) (i := S'.length + 1) (L := kn.map stE) (ks := stKs (names, [])) (n := false) (gT rfl) (stK_depth _))
        (de_to (de_tup (ds := [.tuple (strsD names), .tuple []]) (da_cons (de_tuple (B.of "tuple") (.l .d) (dv 0 rfl)) (da_cons (de_tup (ds := []) da_nil (Nat.zero_le _)) da_nil)) (Nat.le_of_ble_eq_true rfl)) (by rw [stK_data]; rfl) rfl) (dv 4 rfl)) (by rw [stE_mem, decide_eq_false hgo]; rfl) rfl) (fun z => nomatch z) (fun _ => db_nil)) ?_
      refine db_cons (G1 := Gm' level m) (S1 := Sm (kn, [])) (ds_set (i := 6) (de_to (e' := .p (S'.length + 2)) (S2 := Sm (kn, [])) (de_lst da_nil (Nat.zero_le _)) (by simp [St]) (by simp [St, Sm])) nd) ?_
      refine db_cons (G1 := Gm' level m) (S1 := Sm r) (st := midS) hmid ?_
      refine db_cons (G1 := (Gm' level m).set 3 (some (.p (S'.length + 2)))) (S1 := Sm r) (ds_set (i := 3) (dv 6 rfl) nd) ?_
      refine db_frz (j := 3) (i := S'.length + 2) (ds := r.2.map stD) rfl (gT rfl) ?_
      have e : (Sm r).set (S'.length + 2) .gone = St r.1 ++ [.gone] := by
        show (S' ++ _).set _ _ = _
        rw [set_at]; simp [St]
      rw [e]
      exact db_nil
    · intro hz
      simp only [St, List.all_append, Bool.and_eq_true, List.length_append] at hz ⊢
      refine ⟨by simpa using hz.1, ?_⟩
      simp [Cl.lo, kdC, stE, En.lo]
  have outer : ∀ (f m : Nat) (level kn : List (StT Str)), m + f = most + 1 → level.length ≤ hands.length ^ m → kn.length ≤ 2 * hands.length ^ m → (∀ s ∈ level, LenS m s ∧ UpG leS s.2 ∧ InH hands s) →
      (∃ r kn', bfsG (nxS hands) (names, []) f m level kn = some r ∧ Fo X (fun e G => G.set 5 (some e)) fB (rngF m f) (Gb level) (St kn) (.rt (.d (.int (r : Nat))) (St kn'))) ∨
      (bfsG (nxS hands) (names, []) f m level kn = none ∧ ∃ kn' level', Fo X (fun e G => G.set 5 (some e)) fB (rngF m f) (Gb level) (St kn) (.nx (Gb level') (St kn'))) := by
    intro f
    induction f with
    | zero => intro m level kn _ _ _ _; exact .inr ⟨rfl, kn, level, .nil⟩
    | succ f ih =>
      intro m level kn hm hl1 hl2 hlv
      have er : rngF m (f + 1) = .d (.int (m : Nat)) :: rngF (m + 1) f := by unfold rngF; rw [List.range'_succ]; rfl
      rw [er]
      by_cases hgo : (names, []) ∈ kn
      · refine .inl ⟨m, kn, by unfold bfsG; rw [if_pos hgo], .rt ?_⟩
        refine db_out (ds_if (S1 := St kn) (t := true) (dt_to (dt_cmp (op_inK hu) (rv_inK (P := P) (w := w) (S := St kn) (i := S'.length + 1) (L := kn.map stE) (ks := stKs (names, [])) (n := false) (gT rfl) (stK_depth _))
          (de_to (de_tup (ds := [.tuple (strsD names), .tuple []]) (da_cons (de_tuple (B.of "tuple") (.l .d) (dv 0 rfl)) (da_cons (de_tup (ds := []) da_nil (Nat.zero_le _)) da_nil)) (Nat.le_of_ble_eq_true rfl)) (by rw [stK_data]; rfl) rfl) (dv 4 rfl)) (by rw [stE_mem, decide_eq_true hgo]; rfl) rfl) (fun _ => db_one (ds_ret (dv 5 rfl))) (fun z => nomatch z)) rfl
      · have hpm : hands.length ^ (m + 1) ≤ hands.length ^ (most + 1) := Nat.pow_le_pow_right (by omega) (by omega)
        have hps : hands.length ^ (m + 1) = hands.length ^ m * hands.length := Nat.pow_succ _ _
        have h2m : hands.length ^ m * 2 ≤ hands.length ^ m * hands.length := Nat.mul_le_mul_left _ hh2
        have hlh : level.length * hands.length ≤ hands.length ^ m * hands.length := Nat.mul_le_mul_right _ hl1
        obtain ⟨k1, k2⟩ := lvl_len hnx (kn, []) level
        have k1' : (lvlG (nxS hands) (kn, []) level).1.length ≤ kn.length + level.length * hands.length := k1
        have k2' : (lvlG (nxS hands) (kn, []) level).2.length ≤ 0 + level.length * hands.length := k2
        have eb : bfsG (nxS hands) (names, []) (f + 1) m level kn = bfsG (nxS hands) (names, []) f (m + 1) (lvlG (nxS hands) (kn, []) level).2 (lvlG (nxS hands) (kn, []) level).1 := by
          rw [bfsG, if_neg hgo]
        have mono : ∀ s, LenS m s → LenS 1000 s := fun s ⟨a, b, c⟩ => ⟨by omega, by omega, fun p hp => by have := c p hp; omega⟩
        have hbody := turn level kn m (fun s hs => ⟨mono s (hlv s hs).1, (hlv s hs).2⟩) (by omega) hgo
        have hlv' : ∀ s ∈ (lvlG (nxS hands) (kn, []) level).2, LenS (m + 1) s ∧ UpG leS s.2 ∧ InH hands s := fun s hs => by
          rcases (lvl_later (nxS hands) (kl := (kn, [])) (l := level) (fun _ z => nomatch z) s).1 hs with z | ⟨t, ht, hst⟩
          · cases z
          · obtain ⟨h, hh, rfl⟩ := List.mem_map.mp hst
            obtain ⟨a, b, c⟩ := hlv t ht
            exact ⟨step_len a, step_up leS_tot leS_tr b, step_in c hh⟩
        rcases ih (m + 1) (lvlG (nxS hands) (kn, []) level).2 (lvlG (nxS hands) (kn, []) level).1 (by omega) (by omega) (by omega) hlv' with ⟨r, kn', e1, e2⟩ | ⟨e1, kn', level', e2⟩
        · exact .inl ⟨r, kn', eb.trans e1, .cons hbody ⟨_, Le.refl _, .inl rfl⟩ e2⟩
        · exact .inr ⟨eb.trans e1, kn', level', .cons hbody ⟨_, Le.refl _, .inl rfl⟩ e2⟩
  have start : ∀ {o : Out}, DB X (Gb [s00]) (St [s00]) ((defBody s_l_least).drop 1) o → DB X G0 S' (defBody s_l_least) o := by
    intro o ho
    refine db_cons (G1 := (G0.set 3 (some (.p S'.length))).set 4 (some (.p (S'.length + 1)))) (S1 := S' ++ [.lst [.d (stD s00)], kdC P w [stE s00]]) (ds_par (i := 3) (j := 4) (S1 := S' ++ [.lst [.d (stD s00)], kdC P w [stE s00]]) (da_cons (S1 := S' ++ [.lst [.d (stD s00)]])
      (de_lst (da_cons (de_tup (ds := [.tuple [], .tuple []]) (da_cons (de_tup (ds := []) da_nil (Nat.zero_le _)) (da_cons (de_tup (ds := []) da_nil (Nat.zero_le _)) da_nil)) (Nat.le_of_ble_eq_true rfl)) da_nil) (Nat.le_of_ble_eq_true rfl))
      (da_cons (de_to (de_dispK (ks := stKs s00) (S := S' ++ [.lst [.d (stD s00)]]) hu (stK_depth _) (de_tup (ds := [.tuple [], .tuple []]) (da_cons (de_tup (ds := []) da_nil (Nat.zero_le _)) (da_cons (de_tup (ds := []) da_nil (Nat.zero_le _)) da_nil)) (Nat.le_of_ble_eq_true rfl)) de_bool get_last) (by simp) (by simp [stE]; rfl)) da_nil)) rfl nd) ?_
    refine db_frz (j := 3) (i := S'.length) (ds := [stD s00]) rfl (by simp) ?_
    have e : (S' ++ [Cl.lst [.d (stD s00)], kdC P w [stE s00]]).set S'.length .gone = St [s00] := by simp [St]
    rw [e]
    exact ho
  have hg : DE X (Gb [s00]) (St [s00]) (match stAt s_l_least 1 with | .For _ (.Call _ (x :: _) _ _) _ _ _ => x | _ => .Constant .none 0 ⟨0, 0, 0, 0⟩) (.d (.int ((most : Int) + 1))) (St [s00]) := de_bin op_add rv_ii (dv 2 rfl) de_int
  have hst : ∀ s ∈ [s00], LenS 0 s ∧ UpG leS s.2 ∧ InH hands s := fun s hs => by
    rw [List.mem_singleton.mp hs]
    exact ⟨⟨Nat.zero_le _, Nat.zero_le _, fun _ z => nomatch z⟩, List.Pairwise.nil, And.intro (fun x z => absurd z List.not_mem_nil) (fun x z => absurd z List.not_mem_nil)⟩
  have hfor : ∀ {o : Out}, Fo X (fun e G => G.set 5 (some e)) fB (rngF 0 (most + 1)) (Gb [s00]) (St [s00]) o → DS X (Gb [s00]) (St [s00]) (stAt s_l_least 1) o := fun ho =>
    ds_fo (tg := fTg (stAt s_l_least 1)) (iter := fIter (stAt s_l_least 1)) (body := fB) (g := gName 5) (ix := [5]) ho PassesOwn.never rfl
      (di_to (di_range1 (n := (most : Int) + 1) (B.of "range") (by omega) hg) (by rw [← rngF_range]; rfl) rfl) (Le.refl _) (pg_name (i := 5) nd rfl (Or.inl rfl)) (fun e _ => tg_name)
  rcases outer (most + 1) 0 [s00] [s00] (by omega) (Nat.le_refl _) (by simp) hst with ⟨r, kn', e1, e2⟩ | ⟨e1, kn', level', e2⟩
  · have e3 : leastM names hands most = some r := e1
    rw [e3]
    exact ⟨_, start (db_out (st := stAt s_l_least 1) (hfor e2) rfl), Fin.rtd⟩
  · have e3 : leastM names hands most = none := e1
    rw [e3]
    exact ⟨_, start (db_cons (st := stAt s_l_least 1) (hfor e2) (db_one (ds_ret de_none))), Fin.rtd⟩
end
end AF

set_option Elab.async false
set_option linter.all false
set_option maxRecDepth 100000
set_option maxHeartbeats 4000000
/-! the drawn names: all different, short, plain -/
namespace AF
open PySem PySem.Spec PyProof.Rows L2
abbrev cp (x : Str) : List Nat := x.cps.toList
theorem cp_app (a b : Str) : cp (a ++ b) = cp a ++ cp b := by
  show (a.cps ++ b.cps).toList = _
  rw [Array.toList_append]
theorem cp_len (a : Str) : (cp a).length = a.length := by
  show a.cps.toList.length = a.cps.size
  exact Array.length_toList
theorem cp_inj {a b : Str} (h : cp a = cp b) : a = b := by
  cases a; cases b
  exact congrArg Str.mk (Array.toList_inj.mp h)
theorem cp_cut (z : Str) (lo hi : Option Int) : cp (cutS z lo hi) = ((cp z).drop (HT.sIx z.length 0 lo)).take (HT.sIx z.length z.length hi - HT.sIx z.length 0 lo) := by
  show (((z.cps.toList.drop _).take _).toArray).toList = _
  rw [List.toList_toArray]
theorem cp_letter (i : Int) : cp (letterM i) = [97 + i.toNat] := rfl
theorem sIx_none (n d : Nat) : HT.sIx n d none = d := rfl
theorem sIx_some {n d : Nat} {k : Nat} : HT.sIx n d (some (k : Int)) = min k n := by
  exact HT.sIx_nat n d k
theorem cp_to (z : Str) (k : Nat) : cp (cutS z none (some (k : Int))) = (cp z).take k := by
  rw [cp_cut, sIx_none, sIx_some, List.drop_zero, Nat.sub_zero, ← cp_len, List.take_eq_take_iff]
  omega
theorem cp_from (z : Str) (k : Nat) : cp (cutS z (some (k : Int)) none) = (cp z).drop k := by
  rw [cp_cut, sIx_none, sIx_some, ← cp_len]
  rw [List.take_of_length_le (by rw [List.length_drop]; exact Nat.le_refl _)]
  by_cases h : k ≤ (cp z).length
  · rw [Nat.min_eq_left h]
  · rw [Nat.min_eq_right (by omega), List.drop_of_length_le (Nat.le_refl _), List.drop_of_length_le (by omega)]
/-- plain code points -/
def OkC (l : List Nat) : Prop := ∀ c ∈ l, c < 123
theorem OkC.app {l m : List Nat} (a : OkC l) (b : OkC m) : OkC (l ++ m) := fun c h => (List.mem_append.mp h).elim (a c) (b c)
theorem OkC.take {l : List Nat} (a : OkC l) (n : Nat) : OkC (l.take n) := fun c h => a c (List.mem_of_mem_take h)
theorem OkC.drop {l : List Nat} (a : OkC l) (n : Nat) : OkC (l.drop n) := fun c h => a c (List.mem_of_mem_drop h)
theorem ok_letter {i : Int} (h : i < 26) : OkC (cp (letterM i)) := fun c hc => by
  rw [cp_letter] at hc
  rw [List.mem_singleton.mp hc]; omega
theorem ok_lit {x : Str} (h : (cp x).all (fun c => decide (c < 123)) = true) : OkC (cp x) := fun c hc => of_decide_eq_true (List.all_eq_true.mp h c hc)
theorem strOk_of {x : Str} (h : OkC (cp x)) : PyData.strOk x = true := by
  unfold PyData.strOk
  rw [← Array.all_toList]
  exact List.all_eq_true.mpr fun c hc => decide_eq_true (Nat.lt_trans (h c hc) (by decide))
theorem ok_empty : OkC (cp Str.empty) := ok_lit (by decide)
theorem cp_stem (rs : List Int) : cp (stemM rs) = rs.map fun r => 97 + r.toNat := by
  unfold stemM
  rw [TL.join_eq]
  induction rs with
  | nil => rfl
  | cons r rs ih =>
    cases rs with
    | nil => rfl
    | cons r2 rs =>
      show cp ((letterM r ++ Str.empty) ++ Str.join Str.empty ((r2 :: rs).map letterM)) = _
      rw [cp_app, cp_app, ih, cp_letter]
      rfl
theorem ok_stem {rs : List Int} (h : ∀ r ∈ rs, r < 26) : OkC (cp (stemM rs)) := fun c hc => by
  rw [cp_stem] at hc
  obtain ⟨r, hr, rfl⟩ := List.mem_map.mp hc
  have := h r hr
  omega
/-- what the names are -/
structure NmOk (many : Nat) (l : List Str) : Prop where
  len : l.length = many
  nd : l.Nodup
  ok : ∀ x ∈ l, OkC (cp x)
  sz : ∀ x ∈ l, 1 ≤ x.length ∧ x.length ≤ 7
theorem nd_ks {many : Nat} {g : Int → Str} (h : ∀ j k : Nat, j < k → k < many → g (j : Int) ≠ g (k : Int)) : ((ksM many).map g).Nodup := by
  unfold ksM
  rw [List.map_map]
  refine List.pairwise_iff_getElem.mpr fun i j hi hj hij => ?_
  simp only [List.getElem_map, List.getElem_range, Function.comp]
  refine h i j hij ?_
  simpa using hj
theorem mem_ks {many : Nat} {g : Int → Str} {x : Str} (h : x ∈ (ksM many).map g) : ∃ k : Nat, k < many ∧ x = g (k : Int) := by
  unfold ksM at h
  rw [List.map_map] at h
  obtain ⟨k, hk, rfl⟩ := List.mem_map.mp h
  exact ⟨k, List.mem_range.mp hk, rfl⟩
theorem len_ks {many : Nat} {g : Int → Str} : ((ksM many).map g).length = many := by simp [ksM]
theorem w19_ok : ∀ fi : Nat, fi < 19 → ∀ many : Nat, many ≤ 12 → (cutA (W19 ++ W19) (some (fi : Int)) (some ((fi : Int) + (many : Nat)))).length = many ∧ (cutA (W19 ++ W19) (some (fi : Int)) (some ((fi : Int) + (many : Nat)))).Nodup := by
  intro fi hf many hm
  have e : cutA (W19 ++ W19) (some (fi : Int)) (some ((fi : Int) + (many : Nat))) = ((W19 ++ W19).drop fi).take many := by
    rw [show (fi : Int) + (many : Nat) = ((fi + many : Nat) : Int) by omega]
    unfold cutA
    rw [sIx_some, sIx_some]
    have hl : (W19 ++ W19).length = 38 := rfl
    rw [hl, Nat.min_eq_left (by omega), Nat.min_eq_left (by omega), Nat.add_sub_cancel_left]
  rw [e]
  have h2 : (((W19 ++ W19).drop fi).take 19).Nodup := by
    have all : ∀ fi : Nat, fi < 19 → (((W19 ++ W19).drop fi).take 19).Nodup := by decide +kernel
    exact all fi hf
  refine ⟨?_, ?_⟩
  · rw [List.length_take, List.length_drop]
    have hl : (W19 ++ W19).length = 38 := rfl
    omega
  · have e2 : ((W19 ++ W19).drop fi).take many = (((W19 ++ W19).drop fi).take 19).take many := by
      rw [List.take_take]; congr 1; omega
    rw [e2]
    exact h2.sublist (List.take_sublist _ _)
theorem w19_sz : ∀ x ∈ W19 ++ W19, OkC (cp x) ∧ 1 ≤ x.length ∧ x.length ≤ 7 := by
  have h : ∀ x ∈ W19 ++ W19, ((cp x).all (fun c => decide (c < 123)) = true) ∧ 1 ≤ x.length ∧ x.length ≤ 7 := by decide +kernel
  exact fun x hx => ⟨ok_lit (h x hx).1, (h x hx).2⟩
theorem cutA_mem {A : Type} {l : List A} {a b : Option Int} {x : A} (h : x ∈ cutA l a b) : x ∈ l := List.mem_of_mem_drop (List.mem_of_mem_take h)
theorem mod7 {fi : Int} {j k : Nat} (h : j < k) (hk : k < 12) : ((fi + 7 * (j : Int)) % 26).toNat ≠ ((fi + 7 * (k : Int)) % 26).toNat := by omega
theorem pre_ok (b : Box) {many : Nat} (hm : many ≤ 12) : NmOk many (preM b many).1 := by
  unfold preM
  dsimp only
  generalize takeM b 5 = f
  by_cases h0 : f.1 = 0
  · rw [if_pos h0]
    have hg := takeM_lt (b := f.2) (n := 19) (by decide)
    generalize takeM f.2 19 = g at hg
    obtain ⟨n, hn⟩ := Int.eq_ofNat_of_zero_le hg.1
    dsimp only
    rw [hn]
    obtain ⟨h1, h2⟩ := w19_ok n (by omega) many hm
    exact ⟨h1, h2, fun x hx => (w19_sz x (cutA_mem hx)).1, fun x hx => (w19_sz x (cutA_mem hx)).2⟩
  · rw [if_neg h0]
    have hn := takeM_lt (b := f.2) (n := 5) (by decide)
    generalize takeM f.2 5 = n at hn
    have hd := drawsM_lt (b := n.2) (m := 26) (by decide) n.1.toNat
    have hdl := drawsM_len n.2 26 n.1.toNat
    generalize drawsM n.2 26 n.1.toNat = d at hd hdl
    have os : OkC (cp (stemM d.1)) := ok_stem fun r hr => (hd r hr).2
    have sl : (cp (stemM d.1)).length ≤ 4 := by rw [cp_len, stemM_len, hdl]; omega
    generalize stemM d.1 = stem at os sl
    by_cases h1 : f.1 = 1 ∧ many < 7
    · rw [if_pos h1]
      have e1 : ∀ k : Nat, k < 6 → (cp (nm1 stem (k : Int))) = ((cp stem).take 1 ++ [113, 118, 107, 122, 106, 120]).take (k + 1) := fun k hk => by
        unfold nm1
        rw [show (k : Int) + 1 = ((k + 1 : Nat) : Int) by omega, cp_to, cp_app, show (1 : Int) = ((1 : Nat) : Int) from rfl, cp_to]
        rfl
      have l1 : ∀ k : Nat, k < 6 → (cp (nm1 stem (k : Int))).length = k + 1 := fun k hk => by
        rw [e1 k hk, List.length_take, List.length_append]
        simp only [List.length_cons, List.length_nil]
        omega
      refine ⟨len_ks, nd_ks fun j k hjk hk e => ?_, fun x hx => ?_, fun x hx => ?_⟩
      · have h2 := l1 j (by omega)
        rw [e, l1 k (by omega)] at h2
        omega
      · obtain ⟨k, hk, rfl⟩ := mem_ks hx
        rw [e1 k (by omega)]
        exact ((os.take 1).app (fun c hc => by simp at hc; omega)).take _
      · obtain ⟨k, hk, rfl⟩ := mem_ks hx
        rw [← cp_len, l1 k (by omega)]; omega
    · rw [if_neg h1]
      have ha := takeM_lt (b := d.2) (n := (stem.length : Int) + 1) (by omega)
      generalize takeM d.2 ((stem.length : Int) + 1) = a at ha
      have hfi := takeM_lt (b := a.2) (n := 26) (by decide)
      generalize takeM a.2 26 = fi at hfi
      have lt : ∀ k : Nat, (fi.1 + 7 * (k : Int)) % 26 < 26 := fun k => by omega
      by_cases h2 : f.1 = 2
      · rw [if_pos h2]
        have e2 : ∀ k : Nat, cp (nm2 stem fi.1 (k : Int)) = ((cp stem) ++ [113, 118, 107, 122, 106]).take 5 ++ [97 + ((fi.1 + 7 * (k : Int)) % 26).toNat] := fun k => by
          unfold nm2
          rw [cp_app, show (5 : Int) = ((5 : Nat) : Int) from rfl, cp_to, cp_app, cp_letter]
          rfl
        refine ⟨len_ks, nd_ks fun j k hjk hk e => ?_, fun x hx => ?_, fun x hx => ?_⟩
        · have h3 := congrArg cp e
          rw [e2, e2] at h3
          have h4 := List.append_cancel_left h3
          have := (List.cons.inj h4).1
          exact mod7 (fi := fi.1) hjk (by omega) (by omega)
        · obtain ⟨k, hk, rfl⟩ := mem_ks hx
          rw [e2]
          exact ((os.app (fun c hc => by simp at hc; omega)).take _).app (fun c hc => by rw [List.mem_singleton.mp hc]; have := lt k; omega)
        · obtain ⟨k, hk, rfl⟩ := mem_ks hx
          rw [← cp_len, e2, List.length_append, List.length_take, List.length_append]
          simp only [List.length_cons, List.length_nil]
          omega
      · rw [if_neg h2]
        obtain ⟨at_, hat⟩ := Int.eq_ofNat_of_zero_le ha.1
        have hatl : at_ ≤ (cp stem).length := by rw [cp_len]; omega
        have e3 : ∀ k : Nat, cp (nm3 stem a.1 fi.1 (k : Int)) = (((cp stem).take at_ ++ [97 + ((fi.1 + 7 * (k : Int)) % 26).toNat]) ++ (cp stem).drop at_) ++ (if k % 2 = 0 then [] else [97 + ((fi.1 + 7 * (k : Int)) % 26).toNat]) := fun k => by
          unfold nm3
          rw [hat, cp_app, cp_app, cp_app, cp_to, cp_from, cp_letter]
          congr 1
          by_cases q : k % 2 = 0
          · rw [if_pos q, if_pos (by omega)]; rfl
          · rw [if_neg q, if_neg (by omega), cp_letter]
        have l3 : ∀ k : Nat, (cp (nm3 stem a.1 fi.1 (k : Int))).length = (cp stem).length + 1 + (if k % 2 = 0 then 0 else 1) := fun k => by
          rw [e3, List.length_append, List.length_append, List.length_append, List.length_take, List.length_drop]
          by_cases q : k % 2 = 0
          · rw [if_pos q, if_pos q]; simp only [List.length_cons, List.length_nil]; omega
          · rw [if_neg q, if_neg q]; simp only [List.length_cons, List.length_nil]; omega
        refine ⟨len_ks, nd_ks fun j k hjk hk e => ?_, fun x hx => ?_, fun x hx => ?_⟩
        · have h3 := congrArg cp e
          rw [e3, e3, List.append_assoc, List.append_assoc, List.append_assoc, List.append_assoc] at h3
          have h4 := List.append_cancel_left h3
          have := (List.cons.inj h4).1
          exact mod7 (fi := fi.1) hjk (by omega) (by omega)
        · obtain ⟨k, hk, rfl⟩ := mem_ks hx
          rw [e3]
          have o1 : OkC [97 + ((fi.1 + 7 * (k : Int)) % 26).toNat] := fun c hc => by rw [List.mem_singleton.mp hc]; have := lt k; omega
          refine (((os.take _).app o1).app (os.drop _)).app ?_
          by_cases q : k % 2 = 0
          · rw [if_pos q]; exact fun c hc => nomatch hc
          · rw [if_neg q]; exact o1
        · obtain ⟨k, hk, rfl⟩ := mem_ks hx
          rw [← cp_len, l3]
          by_cases q : k % 2 = 0
          · rw [if_pos q]; omega
          · rw [if_neg q]; omega
end AF

set_option Elab.async false
set_option linter.all false
set_option maxRecDepth 100000
set_option maxHeartbeats 4000000
namespace AF
open PySem PySem.Spec PyProof.Rows L2
/-! ### mixing keeps the items -/
theorem erase_perm {A : Type} : ∀ (l : List A) (j : Nat) (h : j < l.length), (l[j] :: l.eraseIdx j).Perm l
  | [], _, h => absurd h (Nat.not_lt_zero _)
  | a :: l, 0, _ => by simp
  | a :: l, j + 1, h => by
    have ih := erase_perm l j (by simpa using h)
    simp only [List.getElem_cons_succ, List.eraseIdx_cons_succ]
    exact (List.Perm.swap a _ _).trans (List.Perm.cons a ih)
theorem mixS_perm (b : Box) (ds : List PyData) : ∀ t, t ≤ ds.length → ((mixS b ds t).2.1 ++ (mixS b ds t).1).Perm ds
  | 0, _ => by simp [mixS]
  | t + 1, h => by
    have ih := mixS_perm b ds t (by omega)
    obtain ⟨h1, h2⟩ := mixS_len b ds t (by omega)
    have hr := takeM_lt (b := (mixS b ds t).2.2) (n := ((mixS b ds t).1.length : Int)) (by omega)
    have hlt : (takeM (mixS b ds t).2.2 ((mixS b ds t).1.length : Int)).1.toNat < (mixS b ds t).1.length := by omega
    simp only [mixS]
    refine List.Perm.trans ?_ ih
    generalize (mixS b ds t).1 = l at hlt hr
    generalize (mixS b ds t).2.1 = acc
    generalize (takeM (mixS b ds t).2.2 (l.length : Int)).1.toNat = j at hlt
    rw [List.append_assoc]
    refine List.Perm.append_left acc ?_
    have e : l.getD j .none = l[j] := by simp [hlt]
    rw [e]
    exact erase_perm l j hlt
theorem mixM_perm (b : Box) (ds : List PyData) : (mixM b ds).1.Perm ds := by
  have h := mixS_perm b ds ds.length (Nat.le_refl _)
  have hl := (mixS_len b ds ds.length (Nat.le_refl _)).1
  rw [Nat.sub_self] at hl
  rw [List.length_eq_zero_iff.mp hl, List.append_nil] at h
  exact h
def strOf : PyData → Str
  | .str x => x
  | _ => Str.empty
theorem perm_strs {l : List Str} {ds : List PyData} (h : ds.Perm (strsD l)) : ∃ m : List Str, ds = strsD m ∧ m.Perm l := by
  refine ⟨ds.map strOf, ?_, ?_⟩
  · have hs : ∀ d ∈ ds, PyData.str (strOf d) = d := fun d hd => by
      obtain ⟨x, _, rfl⟩ := List.mem_map.mp (h.mem_iff.mp hd)
      rfl
    unfold strsD
    rw [List.map_map]
    exact (List.map_id ds).symm.trans (List.map_congr_left fun d hd => (hs d hd).symm)
  · have h2 := h.map strOf
    have e : (strsD l).map strOf = l := by
      unfold strsD
      rw [List.map_map]
      exact (List.map_congr_left fun x _ => rfl).trans (List.map_id l)
    rw [e] at h2
    exact h2
theorem NmOk.perm {many : Nat} {l m : List Str} (h : NmOk many l) (p : m.Perm l) : NmOk many m := ⟨p.length_eq.trans h.len, p.nodup_iff.mpr h.nd, fun x hx => h.ok x (p.mem_iff.mp hx), fun x hx => h.sz x (p.mem_iff.mp hx)⟩
/-- the names as texts -/
theorem names_ok (b : Box) {many : Nat} (hm : many ≤ 12) : ∃ l : List Str, (namesM b many).1 = strsD l ∧ NmOk many l := by
  obtain ⟨m, e, p⟩ := perm_strs (mixM_perm (preM b many).2 ((preM b many).1.map .str))
  exact ⟨m, e, (pre_ok b hm).perm p⟩
end AF

set_option Elab.async false
set_option linter.all false
set_option maxRecDepth 100000
set_option maxHeartbeats 4000000
/-! the least number of deeds, by ranks -/
namespace AF
open PySem
section
variable {α β : Type} [DecidableEq α] [DecidableEq β]
def stretchG (ls : List α) (m : Nat) : Bool := decide ls.Nodup && decide (ls.length < m)
def condG (ls : List α) (m b e : Nat) : Bool := decide (e < ls.length) && stretchG ((ls.drop b).take (e + 1 - b)) m
def extG (ls : List α) (m b : Nat) : Nat → Nat → Nat
  | 0, e => e
  | f + 1, e => if condG ls m b e = true then extG ls m b f (e + 1) else e
def cutsG (ls : List α) (m : Nat) : Nat → Nat → List Nat
  | 0, _ => []
  | f + 1, b => if b < ls.length then extG ls m b (ls.length - (b + 1)) (b + 1) :: cutsG ls m f (extG ls m b (ls.length - (b + 1)) (b + 1)) else []
/-- how many deeds -/
def dlen (n : Nat) : Nat → List Nat → Nat
  | _, [] => 0
  | b, e :: es => 2 * (min (e - b) (n - b) + 1) + dlen n e es
def countG (js : List α) (m : Nat) : Nat := dlen js.length 0 (cutsG js.reverse m js.length 0)
theorem nodup_map {f : α → β} (hf : ∀ a b, f a = f b → a = b) (l : List α) : (l.map f).Nodup ↔ l.Nodup := by
  induction l with
  | nil => simp
  | cons x l ih =>
    rw [List.map_cons, List.nodup_cons, List.nodup_cons, ih, List.mem_map]
    refine ⟨fun h => ⟨fun hx => h.1 ⟨x, hx, rfl⟩, h.2⟩, fun h => ⟨fun ⟨a, ha, e⟩ => h.1 (hf a x e ▸ ha), h.2⟩⟩
theorem cond_map {f : α → Str} (hf : ∀ a b, f a = f b → a = b) (ls : List α) (m b e : Nat) : condM (ls.map f) m b e = condG ls m b e := by
  unfold condM condG stretchM stretchG
  rw [List.length_map, ← List.map_drop, ← List.map_take, List.length_map]
  congr 2
  rw [Bool.eq_iff_iff, decide_eq_true_iff, decide_eq_true_iff]
  exact nodup_map hf _
theorem ext_map {f : α → Str} (hf : ∀ a b, f a = f b → a = b) (ls : List α) (m b : Nat) : ∀ fu e, extM (ls.map f) m b fu e = extG ls m b fu e
  | 0, _ => rfl
  | fu + 1, e => by rw [extM, extG, cond_map hf, ext_map hf ls m b fu]
theorem cuts_map {f : α → Str} (hf : ∀ a b, f a = f b → a = b) (ls : List α) (m : Nat) : ∀ fu b, cutsM (ls.map f) m fu b = cutsG ls m fu b
  | 0, _ => rfl
  | fu + 1, b => by rw [cutsM, cutsG, List.length_map, ext_map hf, cuts_map hf ls m fu]
theorem leave_len (ls hands : List Str) (slot : Str) : ∀ (es : List Nat) (b : Nat), (leaveM ls hands slot b es).length = dlen ls.length b es
  | [], _ => rfl
  | e :: es, b => by
    rw [leaveM, dlen, List.length_append, leave_len ls hands slot es e, stDeeds_len, List.length_take, List.length_drop]
theorem deeds_len {f : α → Str} (hf : ∀ a b, f a = f b → a = b) (js : List α) (hands : List Str) (slot : Str) : (deedsL (js.map f) hands slot).length = countG js hands.length := by
  unfold deedsL cutsL countG
  rw [leave_len, ← List.map_reverse, cuts_map hf, List.length_map, List.length_reverse]
/-! ### states renamed -/
def mapS (f : α → β) (s : StT α) : StT β := (s.1.map f, s.2.map fun p => (f p.1, p.2.map f))
theorem map_inj {f : α → β} (hf : ∀ a b, f a = f b → a = b) : ∀ {l m : List α}, l.map f = m.map f → l = m
  | [], [], _ => rfl
  | [], _ :: _, h => nomatch h
  | _ :: _, [], h => nomatch h
  | x :: l, y :: m, h => by
    rw [List.map_cons, List.map_cons] at h
    obtain ⟨h1, h2⟩ := List.cons.inj h
    rw [hf _ _ h1, map_inj hf h2]
theorem ins_map {le : α → α → Bool} {le2 : β → β → Bool} {f : α → β} (hl : ∀ a b, le2 (f a) (f b) = le a b) (x : α × List α) : ∀ l : List (α × List α), insG le2 (f x.1, x.2.map f) (l.map fun p => (f p.1, p.2.map f)) = (insG le x l).map fun p => (f p.1, p.2.map f)
  | [] => rfl
  | y :: l => by
    rw [List.map_cons, insG, insG, hl]
    split
    · rfl
    · rw [ins_map hl x l]; rfl
theorem own_map {f : α → β} (hf : ∀ a b, f a = f b → a = b) (s : StT α) (h : α) : ownG (mapS f s) (f h) = (ownG s h).map fun p => (f p.1, p.2.map f) := by
  unfold ownG mapS
  rw [List.filter_map]
  congr 1
  refine List.filter_congr fun p _ => ?_
  show decide (f p.1 = f h) = decide (p.1 = h)
  rw [Bool.eq_iff_iff, decide_eq_true_iff, decide_eq_true_iff]
  exact ⟨hf _ _, fun e => by rw [e]⟩
theorem rest_map {f : α → β} (hf : ∀ a b, f a = f b → a = b) (s : StT α) (h : α) : restG (mapS f s) (f h) = (restG s h).map fun p => (f p.1, p.2.map f) := by
  unfold restG mapS
  rw [List.filter_map]
  congr 1
  refine List.filter_congr fun p _ => ?_
  show (!decide (f p.1 = f h)) = !decide (p.1 = h)
  congr 1
  rw [Bool.eq_iff_iff, decide_eq_true_iff, decide_eq_true_iff]
  exact ⟨hf _ _, fun e => by rw [e]⟩
theorem step_map {le : α → α → Bool} {le2 : β → β → Bool} {f : α → β} (hf : ∀ a b, f a = f b → a = b) (hl : ∀ a b, le2 (f a) (f b) = le a b) (s : StT α) (h : α) : stepG le2 (mapS f s) (f h) = mapS f (stepG le s h) := by
  unfold stepG
  rw [own_map hf, rest_map hf]
  cases ownG s h with
  | nil =>
    show (f h :: s.1.map f, insG le2 (f h, s.1.map f) _) = _
    rw [ins_map hl (h, s.1)]
    rfl
  | cons o os => rfl
def runG (le : α → α → Bool) (s : StT α) (p : List α) : StT α := p.foldl (stepG le) s
theorem run_map {le : α → α → Bool} {le2 : β → β → Bool} {f : α → β} (hf : ∀ a b, f a = f b → a = b) (hl : ∀ a b, le2 (f a) (f b) = le a b) : ∀ (p : List α) (s : StT α), runG le2 (mapS f s) (p.map f) = mapS f (runG le s p)
  | [], _ => rfl
  | h :: p, s => by
    show runG le2 (stepG le2 (mapS f s) (f h)) (p.map f) = mapS f (runG le (stepG le s h) p)
    rw [step_map hf hl, run_map hf hl p]
theorem mapS_inj {f : α → β} (hf : ∀ a b, f a = f b → a = b) {s t : StT α} (h : mapS f s = mapS f t) : s = t := by
  have h1 : s.1.map f = t.1.map f := congrArg Prod.fst h
  have h2 : s.2.map (fun p => (f p.1, p.2.map f)) = t.2.map (fun p => (f p.1, p.2.map f)) := congrArg Prod.snd h
  refine Prod.ext (map_inj hf h1) (map_inj (fun a b e => ?_) h2)
  exact Prod.ext (hf _ _ (congrArg Prod.fst e)) (map_inj hf (congrArg Prod.snd e))
theorem rch_run {le : α → α → Bool} {hands : List α} : ∀ (n : Nat) (x : StT α), Rch (fun s => nextG le s hands) ([], []) n x ↔ ∃ p : List α, p.length = n ∧ (∀ h ∈ p, h ∈ hands) ∧ x = runG le ([], []) p
  | 0, x => ⟨fun h => ⟨[], rfl, fun z hz => absurd hz List.not_mem_nil, h⟩, fun ⟨p, hl, _, e⟩ => by
    rw [List.length_eq_zero_iff.mp hl] at e; exact e⟩
  | n + 1, x => by
    constructor
    · rintro ⟨y, hy, hx⟩
      obtain ⟨p, hl, hh, rfl⟩ := (rch_run n y).mp hy
      obtain ⟨h, hm, rfl⟩ := List.mem_map.mp hx
      refine ⟨p ++ [h], by simp [hl], fun z hz => ?_, by simp [runG]⟩
      rcases List.mem_append.mp hz with q | q
      · exact hh z q
      · rw [List.mem_singleton.mp q]; exact hm
    · rintro ⟨p, hl, hh, rfl⟩
      have hp : p ≠ [] := fun e => by rw [e] at hl; cases hl
      obtain ⟨q, h, rfl⟩ : ∃ q h, p = q ++ [h] := ⟨p.dropLast, p.getLast hp, (List.dropLast_concat_getLast hp).symm⟩
      refine ⟨runG le ([], []) q, (rch_run n _).mpr ⟨q, by simpa using hl, fun z hz => hh z (List.mem_append_left _ hz), rfl⟩, ?_⟩
      have : runG le ([], []) (q ++ [h]) = stepG le (runG le ([], []) q) h := by simp [runG]
      rw [this]
      exact List.mem_map.mpr ⟨h, hh h (by simp), rfl⟩
end
/-! ### the check over ranks -/
section
variable {n : Nat} (le : _root_.Fin n → _root_.Fin n → Bool) (M : Nat)
def okAt (k : Nat) (s : StT (_root_.Fin n)) : Bool := match s.2 with
  | [] => if s.1.length ≤ M then decide (countG s.1 n ≤ k) else true
  | _ :: _ => true
def allP : Nat → Nat → StT (_root_.Fin n) → Bool
  | 0, k, s => okAt M k s
  | f + 1, k, s => okAt M k s && (List.finRange n).all fun h => allP f (k + 1) (stepG le s h)
theorem allP_run : ∀ (f k : Nat) (s : StT (_root_.Fin n)), allP le M f k s = true → ∀ p : List (_root_.Fin n), p.length ≤ f → okAt M (k + p.length) (runG le s p) = true
  | 0, k, s, h, p, hp => by
    rw [List.length_eq_zero_iff.mp (by omega : p.length = 0)]
    exact h
  | f + 1, k, s, h, p, hp => by
    rw [allP, Bool.and_eq_true] at h
    cases p with
    | nil => exact h.1
    | cons x p =>
      have h2 := List.all_eq_true.mp h.2 x (List.mem_finRange x)
      have h3 := allP_run f (k + 1) _ h2 p (by simpa using hp)
      rw [List.length_cons, show k + (p.length + 1) = k + 1 + p.length by omega]
      exact h3
/-- the hands in the order of the deeds -/
def pathG (ls : List (_root_.Fin n)) : Nat → List Nat → List (_root_.Fin n)
  | _, [] => []
  | b, e :: es =>
    let seg := (ls.drop b).take (e - b)
    let on := seg ++ ((List.finRange n).filter fun h => !decide (h ∈ seg)).take 1
    on ++ on ++ pathG ls e es
def pathOf (js : List (_root_.Fin n)) : List (_root_.Fin n) := pathG js.reverse 0 (cutsG js.reverse n js.length 0)
def wordsN : Nat → List (List (_root_.Fin n))
  | 0 => [[]]
  | m + 1 => [] :: (wordsN m).flatMap fun w => (List.finRange n).map fun h => h :: w
theorem wordsN_mem : ∀ (m : Nat) (w : List (_root_.Fin n)), w.length ≤ m → w ∈ wordsN m
  | 0, w, h => by rw [List.length_eq_zero_iff.mp (by omega : w.length = 0)]; exact List.mem_singleton.mpr rfl
  | m + 1, [], _ => List.mem_cons_self
  | m + 1, x :: w, h => by
    refine List.mem_cons_of_mem _ (List.mem_flatMap.mpr ⟨w, wordsN_mem m w (by simpa using h), List.mem_map.mpr ⟨x, List.mem_finRange x, rfl⟩⟩)
def chkP (F : Nat) : Bool := allP le M F 0 ([], []) && (wordsN M).all fun js => decide (runG le ([], []) (pathOf js) = (js, [])) && decide ((pathOf js).length = countG js n) && decide (countG js n ≤ F + 1)
end
def le2 (a : Bool) : _root_.Fin 2 → _root_.Fin 2 → Bool := fun i j => match i.1, j.1 with
  | 0, 1 => a
  | 1, 0 => !a
  | _, _ => true
def le3 (a b c : Bool) : _root_.Fin 3 → _root_.Fin 3 → Bool := fun i j => match i.1, j.1 with
  | 0, 1 => a
  | 1, 0 => !a
  | 0, 2 => b
  | 2, 0 => !b
  | 1, 2 => c
  | 2, 1 => !c
  | _, _ => true
theorem chk2 : ∀ a, chkP (le2 a) 3 11 = true := by decide +kernel
end AF

set_option Elab.async false
set_option linter.all false
set_option maxRecDepth 100000
set_option maxHeartbeats 4000000
namespace AF
open PySem
theorem chk3 : ∀ a b c, chkP (le3 a b c) 2 7 = true := by decide +kernel
section
variable {n : Nat} {hands names : List Str} {f : _root_.Fin n → Str}
theorem names_map (hf : hands = (List.finRange n).map f) : ∀ {l : List Str}, (∀ x ∈ l, x ∈ hands) → ∃ js : List (_root_.Fin n), l = js.map f
  | [], _ => ⟨[], rfl⟩
  | x :: l, h => by
    obtain ⟨js, e⟩ := names_map hf (l := l) fun y hy => h y (List.mem_cons_of_mem _ hy)
    have hx := h x List.mem_cons_self
    rw [hf] at hx
    obtain ⟨i, _, ei⟩ := List.mem_map.mp hx
    exact ⟨i :: js, by rw [List.map_cons, ei, e]⟩
theorem least_of {le : _root_.Fin n → _root_.Fin n → Bool} {M F : Nat} (hc : chkP le M F = true) (hf : hands = (List.finRange n).map f) (inj : ∀ a b, f a = f b → a = b) (hl : ∀ a b, leS (f a) (f b) = le a b) (hin : ∀ x ∈ names, x ∈ hands) (hM : names.length ≤ M) (slot : Str) :
    (deedsL names hands slot).length ≤ F + 1 ∧ leastM names hands (deedsL names hands slot).length = some (deedsL names hands slot).length := by
  obtain ⟨js, rfl⟩ := names_map hf hin
  have hn : hands.length = n := by rw [hf, List.length_map, List.length_finRange]
  rw [deeds_len inj js hands slot, hn]
  rw [List.length_map] at hM
  unfold chkP at hc
  rw [Bool.and_eq_true] at hc
  obtain ⟨c1, c2⟩ := hc
  have c3 := List.all_eq_true.mp c2 js (wordsN_mem M js hM)
  rw [Bool.and_eq_true, Bool.and_eq_true, decide_eq_true_iff, decide_eq_true_iff, decide_eq_true_iff] at c3
  obtain ⟨⟨p1, p2⟩, p3⟩ := c3
  refine ⟨p3, ?_⟩
  have h0 : mapS f (([], []) : StT (_root_.Fin n)) = s00 := rfl
  have hg : mapS f ((js, []) : StT (_root_.Fin n)) = (js.map f, []) := rfl
  refine bfs_least (nxS hands) (js.map f, []) (s0 := s00) (d := countG js n) ?_ (fun k hk hr => ?_) _ 0 [s00] [s00] (Lv.start _ _) (Nat.zero_le _) (by omega)
  · refine (rch_run _ _).mpr ⟨(pathOf js).map f, by rw [List.length_map]; exact p2, fun h hh => ?_, ?_⟩
    · obtain ⟨i, _, rfl⟩ := List.mem_map.mp hh
      rw [hf]; exact List.mem_map.mpr ⟨i, List.mem_finRange i, rfl⟩
    · have := run_map inj hl (pathOf js) ([], [])
      rw [p1] at this
      exact this.symm
  · obtain ⟨p, hpl, hph, e⟩ := (rch_run _ _).mp hr
    obtain ⟨is, rfl⟩ := names_map hf hph
    have h2 := run_map inj hl is ([], [])
    have h3 : mapS f (runG le ([], []) is) = mapS f (js, []) := h2.symm.trans (e.symm.trans hg.symm)
    have h4 := mapS_inj inj h3
    rw [List.length_map] at hpl
    have h5 := allP_run le M F 0 ([], []) c1 is (by omega)
    rw [h4] at h5
    unfold okAt at h5
    dsimp only at h5
    rw [if_pos hM, decide_eq_true_iff] at h5
    omega
end
theorem leS_refl (a : Str) : leS a a = true := (leS_tot a a).elim id id
theorem leS_not {a b : Str} (h : a ≠ b) : leS b a = !leS a b := by
  cases q : leS a b with
  | true =>
    cases r : leS b a with
    | true => exact absurd (leS_anti q r) h
    | false => rfl
  | false =>
    rcases leS_tot a b with z | z
    · rw [q] at z; cases z
    · rw [z]; rfl
theorem fin_map {A : Type} (l : List A) {n : Nat} (h : l.length = n) : l = (List.finRange n).map fun i => l[i.1]'(by rw [h]; exact i.2) := by
  subst h
  apply List.ext_getElem
  · simp
  · intro i h1 h2; simp
theorem least_ok {hands names : List Str} (hnd : hands.Nodup) (hin : ∀ x ∈ names, x ∈ hands) (h : (hands.length = 2 ∧ names.length ≤ 3) ∨ (hands.length = 3 ∧ names.length ≤ 2)) (slot : Str) :
    (deedsL names hands slot).length ≤ (if hands.length = 2 then 12 else 8) ∧ leastM names hands (deedsL names hands slot).length = some (deedsL names hands slot).length := by
  rcases h with ⟨hl, hn⟩ | ⟨hl, hn⟩
  · rw [if_pos hl]
    let f : _root_.Fin 2 → Str := fun i => hands[i.1]'(by rw [hl]; exact i.2)
    have inj : ∀ a b, f a = f b → a = b := fun a b e => _root_.Fin.ext ((List.getElem_inj hnd).mp e)
    refine least_of (chk2 (leS (f 0) (f 1))) (fin_map hands hl) inj (fun a b => ?_) hin hn slot
    have n01 : f 0 ≠ f 1 := fun e => absurd (inj _ _ e) (by decide)
    match a, b with
    | 0, 0 => exact leS_refl _
    | 0, 1 => rfl
    | 1, 0 => exact leS_not n01
    | 1, 1 => exact leS_refl _
  · rw [if_neg (by omega)]
    let f : _root_.Fin 3 → Str := fun i => hands[i.1]'(by rw [hl]; exact i.2)
    have inj : ∀ a b, f a = f b → a = b := fun a b e => _root_.Fin.ext ((List.getElem_inj hnd).mp e)
    refine least_of (chk3 (leS (f 0) (f 1)) (leS (f 0) (f 2)) (leS (f 1) (f 2))) (fin_map hands hl) inj (fun a b => ?_) hin hn slot
    have n01 : f 0 ≠ f 1 := fun e => absurd (inj _ _ e) (by decide)
    have n02 : f 0 ≠ f 2 := fun e => absurd (inj _ _ e) (by decide)
    have n12 : f 1 ≠ f 2 := fun e => absurd (inj _ _ e) (by decide)
    match a, b with
    | 0, 0 => exact leS_refl _
    | 0, 1 => rfl
    | 0, 2 => rfl
    | 1, 0 => exact leS_not n01
    | 1, 1 => exact leS_refl _
    | 1, 2 => rfl
    | 2, 0 => exact leS_not n02
    | 2, 1 => exact leS_not n12
    | 2, 2 => exact leS_refl _
end AF

set_option Elab.async false
set_option linter.all false
set_option maxRecDepth 100000
set_option maxHeartbeats 4000000
namespace AF
open PySem PySem.Spec PyProof.Rows L2 PySem.W
def C_law : Ct := fun args S e S' => ∃ ns : List Int, args = [.d (.list (intsD ns))] ∧ e = .d (.bool true) ∧ S' = S
section
variable {P : Program} {w : World} {K : PySem.W.Frag} {mg : Str → Option Value} {base : Heap}
theorem ok_law {f : Addr} {fd : FuncData} (F : L2.Fun K "law" "law" s_law f fd) (B : Nb mg) (Db : Df P w K mg base 1 "_law_box" [] (C_box 7321 43)) (Dt : Df P w K mg base 1 "_law_take" [] C_take) (Dn : Df P w K mg base 3 "_law_names" [] C_names)
    (Dl : Df P w K mg base 3 "leave" [.str "s"] C_leave) (De : Df P w K mg base 2 "_law_least" [] C_least) : FnOk P w K mg base L2.CX0 4 f fd ["_law_script"] (spOf K C_law) := by
  refine fn_c F sc_law (fun args S e S' h => by obtain ⟨ns, rfl, _⟩ := h; rfl) fun cdv A outer s0 H E hr args S e S' h => ?_
  obtain ⟨ns, rfl, rfl, rfl⟩ := h
  have gT : ∀ {T : List Cl} {j : Nat} {c : Cl}, T[j]? = some c → (S' ++ T)[S'.length + j]? = some c := fun h => by rw [get_at]; exact h
  have g0 : ∀ {c : Cl} {T : List Cl}, (S' ++ (c :: T))[S'.length]? = some c := fun {c T} => by
    have := gT (T := c :: T) (j := 0) (c := c) rfl
    rwa [Nat.add_zero] at this
  have w0 : ∀ {c c' : Cl} {T : List Cl}, (S' ++ (c :: T)).set S'.length c' = S' ++ (c' :: T) := fun {c c' T} => by
    have := set_at (S := S') (T := c :: T) (j := 0) (c := c')
    rw [Nat.add_zero] at this
    exact this
  let N : List Str := ["_law_script", "_law_k", "_law_box_here", "_law_hands", "_law_names_here", "_law_deeds", "_law_cuts", "_law_turn"]
  have nd := sc_law.nd
  let X := (cxOf L2.CX0 P w K mg base N "law" (defScope s_law) f cdv A outer s0 H E).nox
  let Gb : Gm := startG N [.d (.list (intsD ns))]
  let fB : List Stmt := fBody (stAt s_law 0)
  have turn : ∀ k : Nat, DB X (Gb.set 1 (some (.d (.int (k : Nat))))) S' fB (.nx Gb S') := by
    intro k
    generalize hb0 : boxM 7321 43 ns k = b0
    generalize ht3 : takeM b0 3 = t3
    obtain ⟨hands, hH, nok⟩ := names_ok t3.2 (many := if t3.1 = 0 then 3 else 2) (by split <;> decide)
    generalize hmn : (if t3.1 = 0 then 3 else 2 : Nat) = many at hH nok
    have hm23 : many = 2 ∨ many = 3 := by rw [← hmn]; split <;> simp
    generalize hb2 : (namesM t3.2 many).2 = b2
    generalize hq : (if hands.length = 2 then 4 else 3 : Int) = q
    have hq0 : 0 < q ∧ q ≤ 4 := by rw [← hq]; split <;> decide
    have hn4 := takeM_lt (b := b2) (n := q) hq0.1
    generalize htn : takeM b2 q = tn at hn4
    have hlen : hands.length = many := nok.len
    have hlp : (0 : Int) < (hands.length : Int) := by omega
    have hds := drawsM_lt (b := tn.2) (m := (hands.length : Int)) hlp tn.1.toNat
    have hdl := drawsM_len tn.2 (hands.length : Int) tn.1.toNat
    generalize hdd : drawsM tn.2 (hands.length : Int) tn.1.toNat = d at hds hdl
    let pick : Int → Str := fun r => hands.getD r.toNat Str.empty
    let names : List Str := d.1.map pick
    have hin : ∀ x ∈ names, x ∈ hands := fun x hx => by
      obtain ⟨r, hr, rfl⟩ := List.mem_map.mp hx
      obtain ⟨r0, r1⟩ := hds r hr
      have : r.toNat < hands.length := by omega
      show hands.getD r.toNat Str.empty ∈ hands
      rw [List.getD_eq_getElem?_getD, List.getElem?_eq_getElem this]
      exact List.getElem_mem this
    have hnl : names.length = tn.1.toNat := by rw [← hdl]; simp [names]
    have hcase : (hands.length = 2 ∧ names.length ≤ 3) ∨ (hands.length = 3 ∧ names.length ≤ 2) := by
      rcases hm23 with e | e
      · left; rw [hlen, e, hnl]; rw [hlen, e, if_pos rfl] at hq; omega
      · right; rw [hlen, e, hnl]; rw [hlen, e, if_neg (by decide)] at hq; omega
    obtain ⟨m1, m2⟩ := least_ok nok.nd hin hcase "s"
    generalize hde : deedsL names hands "s" = deeds at m1 m2
    have hpow : hands.length ^ (deeds.length + 1) ≤ 300000 := by
      rcases hcase with ⟨e, _⟩ | ⟨e, _⟩
      · rw [if_pos e] at m1
        rw [e]
        exact Nat.le_trans (Nat.pow_le_pow_right (by decide) (by omega : deeds.length + 1 ≤ 13)) (by decide)
      · rw [if_neg (by omega)] at m1
        rw [e]
        exact Nat.le_trans (Nat.pow_le_pow_right (by decide) (by omega : deeds.length + 1 ≤ 9)) (by decide)
    have hd12 : deeds.length ≤ 12 := by
      refine Nat.le_trans m1 ?_
      split <;> decide
    let G1 : Gm := Gb.set 1 (some (.d (.int (k : Nat))))
    let G2 : Gm := G1.set 2 (some (.p S'.length))
    let G3 : Gm := (G2.set 3 (some (.p (S'.length + 1)))).set 3 (some (.d (.list (strsD hands))))
    let G4 : Gm := (G3.set 4 (some (.p (S'.length + 2)))).set 4 (some (.d (.list (strsD names))))
    let cutsD : PyData := .tuple ((cutsL names hands).map fun n => .int (n : Nat))
    let G5 : Gm := (G4.set 5 (some (.d (.tuple deeds)))).set 6 (some (.d cutsD))
    refine db_dropE (S1 := S') (T := [boxC d.2, .gone, .gone]) (G2 := G5) ?_ trivial id (Nat.le_refl _) (LeB.le (And.intro rfl trivial))
    refine db_cons (G1 := G2) (S1 := S' ++ [boxC b0]) (ds_set (i := 2) (de_call Db hr (by decide) ⟨ns, k, rfl, rfl, by rw [hb0]⟩ (da_cons (dv 0 rfl) (da_cons (dv 1 rfl) da_nil))) nd) ?_
    refine db_cons (G1 := G2.set 3 (some (.p (S'.length + 1)))) (S1 := S' ++ [boxC b2, .lst ((strsD hands).map .d)]) (ds_set (i := 3) (de_to (de_call Dn hr (by decide) ⟨S'.length, t3.2, many, rfl, g0, by omega, rfl, rfl⟩ (da_cons (dv 2 rfl) (da_cons (S1 := S' ++ [boxC t3.2]) (x := .d (.int (many : Nat)))
      (de_to (de_bin op_add rv_ii de_int (de_intB (B.of "int") (de_cmp op_eq rv_eqI (de_to (de_take Dt hr (by decide) (b := b0) (n := 3) (i := S'.length) g0 (by decide) (by decide) (dv 2 rfl) de_int) (by rw [ht3]) (by rw [ht3, w0])) de_int))) (by
        rw [← hmn]
        by_cases z : t3.1 = 0
        · rw [if_pos z, decide_eq_true z]; rfl
        · rw [if_neg z, decide_eq_false z]; rfl) rfl) da_nil))) (by simp) (by rw [hb2, hH, w0]; simp)) nd) ?_
    refine db_frz (j := 3) (i := S'.length + 1) (ds := strsD hands) rfl (gT rfl) ?_
    have e3 : (S' ++ [boxC b2, Cl.lst ((strsD hands).map .d)]).set (S'.length + 1) .gone = S' ++ [boxC b2, .gone] := by rw [set_at]; rfl
    rw [e3]
    show DB X G3 _ _ _
    refine db_cons (G1 := G3.set 4 (some (.p (S'.length + 2)))) (S1 := S' ++ [boxC d.2, .gone, .lst ((strsD names).map .d)]) (ds_setLc (i := 4) (LC.to (lc_draw (own := [("_law_turn", 7)]) (g := gName 7) (ix := [7]) (f := fun e G => G.set 7 (some e)) (b := tn.2) (m := (hands.length : Int)) (n := tn.1.toNat) (i := S'.length) (S1 := S' ++ [boxC tn.2, .gone]) (fun r => .str (pick r)) g0 rfl nd
      (di_to (di_range1 (n := tn.1) (B.of "range") (by omega) (de_to (de_take Dt hr (by decide) (b := b2) (n := q) (i := S'.length) g0 hq0.1 (by omega) (dv 2 rfl)
        (de_dropS (T := [.lst [.d (.int 4), .d (.int 3)]]) (de_ixL (S2 := (S' ++ [boxC b2, .gone]) ++ [.lst [.d (.int 4), .d (.int 3)]]) (xs := [.d (.int 4), .d (.int 3)]) (i := (hands.length : Int) - 2) (j := hands.length - 2) (.c get_last) ?_ ?_ (de_lst (da_cons de_int (da_cons de_int da_nil)) (Nat.le_of_ble_eq_true rfl)) (de_bin op_sub rv_ii (de_to (de_len (B.of "len") (.l .d) (dv 3 rfl)) (by simp) rfl) de_int)))) (by rw [htn]) (by rw [htn, w0]))) rfl rfl)
      (blkOk_by (own := [("_law_turn", 7)]) (N := N) (sc := defScope s_law) (by decide +kernel)) (fun _ _ _ _ _ => pg_name (i := 7) nd rfl (Or.inl rfl)) (fun _ _ => tg_name) (by decide) (by omega) (fun b' e s H C cl fp => ?_)) (by simp) (by rw [hdd, w0]; simp [names]))) ?_
    · rcases hm23 with e | e
      · rw [hlen, e]; rfl
      · rw [hlen, e]; rfl
    · rw [← hq]
      rcases hm23 with e | e
      · rw [hlen, e]; rfl
      · rw [hlen, e]; rfl
    · have hb' := takeM_lt (b := b') (n := (hands.length : Int)) hlp
      have hj : (takeM b' (hands.length : Int)).1.toNat < hands.length := by omega
      refine de_ixL (xs := (strsD hands).map .d) (i := (takeM b' (hands.length : Int)).1) (j := (takeM b' (hands.length : Int)).1.toNat) .d (by simpa using ixN_int hb'.1 (by omega)) (by simp [hj, pick]) (dv 3 rfl)
        (de_to (de_take Dt hr (by decide) (b := b') (n := (hands.length : Int)) (i := S'.length) (by rw [w0]; exact g0) hlp (by omega) (dv 2 rfl) (de_to (de_len (B.of "len") (.l .d) (dv 3 rfl)) (by simp) rfl)) rfl (by rw [w0, w0, w0]))
    refine db_frz (j := 4) (i := S'.length + 2) (ds := strsD names) rfl (gT rfl) ?_
    have e4 : (S' ++ [boxC d.2, Cl.gone, Cl.lst ((strsD names).map .d)]).set (S'.length + 2) .gone = S' ++ [boxC d.2, .gone, .gone] := by rw [set_at]; rfl
    rw [e4]
    show DB X G4 _ _ _
    refine db_cons (G1 := G5) (S1 := S' ++ [boxC d.2, .gone, .gone]) (ds_unp (x := .d (.tuple [.tuple deeds, cutsD])) (pg_tup rfl (pgs_cons (pg_name (i := 5) nd rfl (Or.inl rfl)) (pgs_cons (pg_name (i := 6) nd rfl (Or.inl rfl)) pgs_nil))) (tg_tup2 tg_name tg_name)
      (de_callD (ys := [.d (.str "s")]) Dl hr (by decide) (fun _ _ => .cons (.str _) .nil) ⟨names, hands, "s", rfl, by omega, by omega, by omega, nok.nd, hin, by rw [hde], rfl⟩ (da_cons (dv 4 rfl) (da_cons (dv 3 rfl) da_nil)))) ?_
    refine db_one (ds_if (S1 := S' ++ [boxC d.2, .gone, .gone]) (t := false) (dt_to (dt_cmp op_ne (rv_neI (i := (deeds.length : Int)) (j := (deeds.length : Int))) (de_to (de_call De hr (by decide) ⟨names, hands, deeds.length, rfl, by omega, by omega, hpow, by omega, by omega, fun x hx => strOk_of (nok.ok x hx), rfl, rfl⟩ (da_cons (dv 4 rfl) (da_cons (dv 3 rfl) (da_cons (de_to (de_len (B.of "len") .t (dv 5 rfl)) (by simp) rfl) da_nil)))) (by rw [m2]; rfl) rfl)
      (de_to (de_len (B.of "len") .t (dv 5 rfl)) (by simp) rfl)) (by simp) rfl) (fun z => nomatch z) (fun _ => db_nil))
  have loop : ∀ xs : List En, (∀ e ∈ xs, ∃ k : Nat, e = .d (.int (k : Nat))) → Fo X (fun e G => G.set 1 (some e)) fB xs Gb S' (.nx Gb S') := by
    intro xs
    induction xs with
    | nil => intro _; exact .nil
    | cons e xs ih =>
      intro h
      obtain ⟨k, rfl⟩ := h e List.mem_cons_self
      exact .cons (turn k) ⟨_, Le.refl _, .inl rfl⟩ (ih fun e he => h e (List.mem_cons_of_mem _ he))
  have hfor : ∃ o, DS X Gb S' (stAt s_law 0) o ∧ o = .nx Gb S' := by
    refine ⟨_, ds_fo (tg := fTg (stAt s_law 0)) (iter := fIter (stAt s_law 0)) (body := fB) (g := gName 1) (ix := [1]) (loop _ ?_) PassesOwn.never rfl
      (di_range1 (B.of "range") ?_ (de_max2 rfl (B.of "max") (da_cons de_int (da_cons (de_min2 rfl (B.of "min") (da_cons de_int (da_cons (de_to (de_len (B.of "len") (.l .d) (dv 0 rfl)) (by rw [ints_len]) rfl) da_nil))) da_nil)))) (Le.refl _) (pg_name (i := 1) nd rfl (Or.inl rfl)) (fun e _ => tg_name), rfl⟩
    · intro e he
      obtain ⟨k, _, rfl⟩ := range_cases he
      exact ⟨k, rfl⟩
    · split <;> (try split) <;> omega
  obtain ⟨o, h1, rfl⟩ := hfor
  exact ⟨_, db_cons (st := stAt s_law 0) h1 (db_one (ds_ret de_bool)), Fin.rtd0⟩
end
end AF

set_option Elab.async false
set_option linter.all false
set_option maxRecDepth 100000
set_option maxHeartbeats 4000000
namespace AF
open PySem PySem.Spec PyProof.Rows L2
theorem ints_dp {K : Fg} {H : Hp} : ∀ ns : List Int, DpAll K H (ns.map V.int) (intsD ns)
  | [] => .nil
  | _ :: ns => .cons (.int _) (ints_dp ns)
theorem sp_law {K : Fg} {H : Hp} {a : Addr} {ns : List Int} {n : Nat} {E : XK} (hl : ns.length ≤ n) (hS : SqL K H a (ns.map V.int)) : spOf K C_law [.ref a] H (fun v _ => v = .bl true) E :=
  ⟨H, [], [.d (.list (intsD ns))], [], .d (.bool true), [], ⟨ns, rfl, rfl, rfl⟩, ⟨Same.refl _, List.nodup_nil, rfl, fun _ z => absurd z List.not_mem_nil, fun _ _ _ h => by simp at h⟩, .cons (.lst hS (ints_dp ns)) .nil, fun Hi' H' al' v n' w' r => by
    cases r; rfl⟩
theorem all_mk {l : PySem.W.OpenLaw} {w : World} {K : PySem.W.Frag} {h : Heap} {mg : Str → Option Value} {fa : Addr} (X : K.In h) (G : h.Ns mainGlobals mg) (hfa : mg "law" = some (.ref fa))
    {f_check_leaving : Addr} {od_check_leaving an_check_leaving : Option Addr} {sl_check_leaving : Array (Option Value)} {oc_check_leaving kV_check_leaving dc_check_leaving pm_check_leaving cd_check_leaving ct_check_leaving : Value}
    (a_check_leaving : PySem.W.nsIn K mainGlobals "check_leaving" = some (some (.ref f_check_leaving))) (l_check_leaving : K.lookup f_check_leaving = some ⟨oc_check_leaving, od_check_leaving, .func (PySem.W.fnOf "check_leaving" "check_leaving" (defArgs s_check_leaving) (defBody s_check_leaving) (defScope s_check_leaving) .none kV_check_leaving dc_check_leaving pm_check_leaving an_check_leaving cd_check_leaving ct_check_leaving), sl_check_leaving⟩) (c_check_leaving : PySem.W.codeIn K cd_check_leaving "check_leaving" = true) (k_check_leaving : PySem.W.keepIn K (.ref f_check_leaving) = true)
    {f_is_stretch : Addr} {od_is_stretch an_is_stretch : Option Addr} {sl_is_stretch : Array (Option Value)} {oc_is_stretch kV_is_stretch dc_is_stretch pm_is_stretch cd_is_stretch ct_is_stretch : Value}
    (a_is_stretch : PySem.W.nsIn K mainGlobals "is_stretch" = some (some (.ref f_is_stretch))) (l_is_stretch : K.lookup f_is_stretch = some ⟨oc_is_stretch, od_is_stretch, .func (PySem.W.fnOf "is_stretch" "is_stretch" (defArgs s_is_stretch) (defBody s_is_stretch) (defScope s_is_stretch) .none kV_is_stretch dc_is_stretch pm_is_stretch an_is_stretch cd_is_stretch ct_is_stretch), sl_is_stretch⟩) (c_is_stretch : PySem.W.codeIn K cd_is_stretch "is_stretch" = true) (k_is_stretch : PySem.W.keepIn K (.ref f_is_stretch) = true)
    {f_cuts_of : Addr} {od_cuts_of an_cuts_of : Option Addr} {sl_cuts_of : Array (Option Value)} {oc_cuts_of kV_cuts_of dc_cuts_of pm_cuts_of cd_cuts_of ct_cuts_of : Value}
    (a_cuts_of : PySem.W.nsIn K mainGlobals "cuts_of" = some (some (.ref f_cuts_of))) (l_cuts_of : K.lookup f_cuts_of = some ⟨oc_cuts_of, od_cuts_of, .func (PySem.W.fnOf "cuts_of" "cuts_of" (defArgs s_cuts_of) (defBody s_cuts_of) (defScope s_cuts_of) .none kV_cuts_of dc_cuts_of pm_cuts_of an_cuts_of cd_cuts_of ct_cuts_of), sl_cuts_of⟩) (c_cuts_of : PySem.W.codeIn K cd_cuts_of "cuts_of" = true) (k_cuts_of : PySem.W.keepIn K (.ref f_cuts_of) = true)
    {f_stretch_deeds : Addr} {od_stretch_deeds an_stretch_deeds : Option Addr} {sl_stretch_deeds : Array (Option Value)} {oc_stretch_deeds kV_stretch_deeds dc_stretch_deeds pm_stretch_deeds cd_stretch_deeds ct_stretch_deeds : Value}
    (a_stretch_deeds : PySem.W.nsIn K mainGlobals "stretch_deeds" = some (some (.ref f_stretch_deeds))) (l_stretch_deeds : K.lookup f_stretch_deeds = some ⟨oc_stretch_deeds, od_stretch_deeds, .func (PySem.W.fnOf "stretch_deeds" "stretch_deeds" (defArgs s_stretch_deeds) (defBody s_stretch_deeds) (defScope s_stretch_deeds) .none kV_stretch_deeds dc_stretch_deeds pm_stretch_deeds an_stretch_deeds cd_stretch_deeds ct_stretch_deeds), sl_stretch_deeds⟩) (c_stretch_deeds : PySem.W.codeIn K cd_stretch_deeds "stretch_deeds" = true) (k_stretch_deeds : PySem.W.keepIn K (.ref f_stretch_deeds) = true)
    {f_leave : Addr} {od_leave an_leave : Option Addr} {sl_leave : Array (Option Value)} {oc_leave dc_leave pm_leave cd_leave ct_leave : Value}
    {kd_leave : Addr} {t_leave_0 : Tok}
    (a_leave : PySem.W.nsIn K mainGlobals "leave" = some (some (.ref f_leave))) (l_leave : K.lookup f_leave = some ⟨oc_leave, od_leave, .func (PySem.W.fnOf "leave" "leave" (defArgs s_leave) (defBody s_leave) (defScope s_leave) .none (.ref kd_leave) dc_leave pm_leave an_leave cd_leave ct_leave), sl_leave⟩) (c_leave : PySem.W.codeIn K cd_leave "leave" = true) (k_leave : PySem.W.keepIn K (.ref f_leave) = true)
    (n_leave_0 : PySem.W.nsIn K kd_leave "slot" = some (some (.str "s" t_leave_0)))
    {f_l_box : Addr} {od_l_box an_l_box : Option Addr} {sl_l_box : Array (Option Value)} {oc_l_box kV_l_box dc_l_box pm_l_box cd_l_box ct_l_box : Value}
    (a_l_box : PySem.W.nsIn K mainGlobals "_law_box" = some (some (.ref f_l_box))) (l_l_box : K.lookup f_l_box = some ⟨oc_l_box, od_l_box, .func (PySem.W.fnOf "_law_box" "_law_box" (defArgs s_l_box) (defBody s_l_box) (defScope s_l_box) .none kV_l_box dc_l_box pm_l_box an_l_box cd_l_box ct_l_box), sl_l_box⟩) (c_l_box : PySem.W.codeIn K cd_l_box "_law_box" = true) (k_l_box : PySem.W.keepIn K (.ref f_l_box) = true)
    {f_l_take : Addr} {od_l_take an_l_take : Option Addr} {sl_l_take : Array (Option Value)} {oc_l_take kV_l_take dc_l_take pm_l_take cd_l_take ct_l_take : Value}
    (a_l_take : PySem.W.nsIn K mainGlobals "_law_take" = some (some (.ref f_l_take))) (l_l_take : K.lookup f_l_take = some ⟨oc_l_take, od_l_take, .func (PySem.W.fnOf "_law_take" "_law_take" (defArgs s_l_take) (defBody s_l_take) (defScope s_l_take) .none kV_l_take dc_l_take pm_l_take an_l_take cd_l_take ct_l_take), sl_l_take⟩) (c_l_take : PySem.W.codeIn K cd_l_take "_law_take" = true) (k_l_take : PySem.W.keepIn K (.ref f_l_take) = true)
    {f_l_mixed : Addr} {od_l_mixed an_l_mixed : Option Addr} {sl_l_mixed : Array (Option Value)} {oc_l_mixed kV_l_mixed dc_l_mixed pm_l_mixed cd_l_mixed ct_l_mixed : Value}
    (a_l_mixed : PySem.W.nsIn K mainGlobals "_law_mixed" = some (some (.ref f_l_mixed))) (l_l_mixed : K.lookup f_l_mixed = some ⟨oc_l_mixed, od_l_mixed, .func (PySem.W.fnOf "_law_mixed" "_law_mixed" (defArgs s_l_mixed) (defBody s_l_mixed) (defScope s_l_mixed) .none kV_l_mixed dc_l_mixed pm_l_mixed an_l_mixed cd_l_mixed ct_l_mixed), sl_l_mixed⟩) (c_l_mixed : PySem.W.codeIn K cd_l_mixed "_law_mixed" = true) (k_l_mixed : PySem.W.keepIn K (.ref f_l_mixed) = true)
    {f_l_names : Addr} {od_l_names an_l_names : Option Addr} {sl_l_names : Array (Option Value)} {oc_l_names kV_l_names dc_l_names pm_l_names cd_l_names ct_l_names : Value}
    (a_l_names : PySem.W.nsIn K mainGlobals "_law_names" = some (some (.ref f_l_names))) (l_l_names : K.lookup f_l_names = some ⟨oc_l_names, od_l_names, .func (PySem.W.fnOf "_law_names" "_law_names" (defArgs s_l_names) (defBody s_l_names) (defScope s_l_names) .none kV_l_names dc_l_names pm_l_names an_l_names cd_l_names ct_l_names), sl_l_names⟩) (c_l_names : PySem.W.codeIn K cd_l_names "_law_names" = true) (k_l_names : PySem.W.keepIn K (.ref f_l_names) = true)
    {f_l_next : Addr} {od_l_next an_l_next : Option Addr} {sl_l_next : Array (Option Value)} {oc_l_next kV_l_next dc_l_next pm_l_next cd_l_next ct_l_next : Value}
    (a_l_next : PySem.W.nsIn K mainGlobals "_law_next" = some (some (.ref f_l_next))) (l_l_next : K.lookup f_l_next = some ⟨oc_l_next, od_l_next, .func (PySem.W.fnOf "_law_next" "_law_next" (defArgs s_l_next) (defBody s_l_next) (defScope s_l_next) .none kV_l_next dc_l_next pm_l_next an_l_next cd_l_next ct_l_next), sl_l_next⟩) (c_l_next : PySem.W.codeIn K cd_l_next "_law_next" = true) (k_l_next : PySem.W.keepIn K (.ref f_l_next) = true)
    {f_l_least : Addr} {od_l_least an_l_least : Option Addr} {sl_l_least : Array (Option Value)} {oc_l_least kV_l_least dc_l_least pm_l_least cd_l_least ct_l_least : Value}
    (a_l_least : PySem.W.nsIn K mainGlobals "_law_least" = some (some (.ref f_l_least))) (l_l_least : K.lookup f_l_least = some ⟨oc_l_least, od_l_least, .func (PySem.W.fnOf "_law_least" "_law_least" (defArgs s_l_least) (defBody s_l_least) (defScope s_l_least) .none kV_l_least dc_l_least pm_l_least an_l_least cd_l_least ct_l_least), sl_l_least⟩) (c_l_least : PySem.W.codeIn K cd_l_least "_law_least" = true) (k_l_least : PySem.W.keepIn K (.ref f_l_least) = true)
    {f_law : Addr} {od_law an_law : Option Addr} {sl_law : Array (Option Value)} {oc_law kV_law dc_law pm_law cd_law ct_law : Value}
    (a_law : PySem.W.nsIn K mainGlobals "law" = some (some (.ref f_law))) (l_law : K.lookup f_law = some ⟨oc_law, od_law, .func (PySem.W.fnOf "law" "law" (defArgs s_law) (defBody s_law) (defScope s_law) .none kV_law dc_law pm_law an_law cd_law ct_law), sl_law⟩) (c_law : PySem.W.codeIn K cd_law "law" = true) (k_law : PySem.W.keepIn K (.ref f_law) = true)
    (z_len : PySem.W.nsIn K mainGlobals "len" = some none)
    (z_abs : PySem.W.nsIn K mainGlobals "abs" = some none)
    (z_int : PySem.W.nsIn K mainGlobals "int" = some none)
    (z_range : PySem.W.nsIn K mainGlobals "range" = some none)
    (z_list : PySem.W.nsIn K mainGlobals "list" = some none)
    (z_tuple : PySem.W.nsIn K mainGlobals "tuple" = some none)
    (z_sorted : PySem.W.nsIn K mainGlobals "sorted" = some none)
    (z_set : PySem.W.nsIn K mainGlobals "set" = some none)
    (z_max : PySem.W.nsIn K mainGlobals "max" = some none)
    (z_min : PySem.W.nsIn K mainGlobals "min" = some none)
    (z_enumerate : PySem.W.nsIn K mainGlobals "enumerate" = some none)
    (z_zip : PySem.W.nsIn K mainGlobals "zip" = some none)
    (z_sum : PySem.W.nsIn K mainGlobals "sum" = some none)
    (z_repr : PySem.W.nsIn K mainGlobals "repr" = some none)
    (z_isinstance : PySem.W.nsIn K mainGlobals "isinstance" = some none)
    (z_all : PySem.W.nsIn K mainGlobals "all" = some none)
    (z_any : PySem.W.nsIn K mainGlobals "any" = some none)
    (z_dict : PySem.W.nsIn K mainGlobals "dict" = some none)
    (z_reversed : PySem.W.nsIn K mainGlobals "reversed" = some none)
    (z_str : PySem.W.nsIn K mainGlobals "str" = some none)
    (z_bool : PySem.W.nsIn K mainGlobals "bool" = some none)
    : ∃ fd : FuncData, (∀ (s : Shared) (v : Value), BindsTo s fd ⟨[v], []⟩ [("_law_script", v)]) ∧ ∀ base : Heap, K.In base → base.Ns mainGlobals mg → FnOk l.prog w K mg base CX0 4 fa fd ["_law_script"] (spOf K C_law) := by
  have e := hfa.symm.trans (PySem.W.mg_of X G a_law)
  cases e
  have B : Nb mg := fun x hx => by
    simp only [blts, List.mem_cons, List.not_mem_nil, or_false] at hx
    rcases hx with rfl | rfl | rfl | rfl | rfl | rfl | rfl | rfl | rfl | rfl | rfl | rfl | rfl | rfl | rfl | rfl | rfl | rfl | rfl | rfl | rfl
    · exact PySem.W.mg_none_of X G z_len
    · exact PySem.W.mg_none_of X G z_abs
    · exact PySem.W.mg_none_of X G z_int
    · exact PySem.W.mg_none_of X G z_range
    · exact PySem.W.mg_none_of X G z_list
    · exact PySem.W.mg_none_of X G z_tuple
    · exact PySem.W.mg_none_of X G z_sorted
    · exact PySem.W.mg_none_of X G z_set
    · exact PySem.W.mg_none_of X G z_max
    · exact PySem.W.mg_none_of X G z_min
    · exact PySem.W.mg_none_of X G z_enumerate
    · exact PySem.W.mg_none_of X G z_zip
    · exact PySem.W.mg_none_of X G z_sum
    · exact PySem.W.mg_none_of X G z_repr
    · exact PySem.W.mg_none_of X G z_isinstance
    · exact PySem.W.mg_none_of X G z_all
    · exact PySem.W.mg_none_of X G z_any
    · exact PySem.W.mg_none_of X G z_dict
    · exact PySem.W.mg_none_of X G z_reversed
    · exact PySem.W.mg_none_of X G z_str
    · exact PySem.W.mg_none_of X G z_bool
  have F_check_leaving := fun_mk (st := s_check_leaving) l_check_leaving c_check_leaving k_check_leaving
  have b_check_leaving := F_check_leaving.binds (ps := ["names", "hands"]) fun _ _ _ _ _ _ us hl => match us, hl with | [_, _], _ => rfl
  have F_is_stretch := fun_mk (st := s_is_stretch) l_is_stretch c_is_stretch k_is_stretch
  have b_is_stretch := F_is_stretch.binds (ps := ["layers", "hands"]) fun _ _ _ _ _ _ us hl => match us, hl with | [_, _], _ => rfl
  have F_cuts_of := fun_mk (st := s_cuts_of) l_cuts_of c_cuts_of k_cuts_of
  have b_cuts_of := F_cuts_of.binds (ps := ["layers", "hands"]) fun _ _ _ _ _ _ us hl => match us, hl with | [_, _], _ => rfl
  have F_stretch_deeds := fun_mk (st := s_stretch_deeds) l_stretch_deeds c_stretch_deeds k_stretch_deeds
  have b_stretch_deeds := F_stretch_deeds.binds (ps := ["layers", "hands", "slot"]) fun _ _ _ _ _ _ us hl => match us, hl with | [_, _, _], _ => rfl
  have F_leave : FunD K "leave" "leave" (defArgs s_leave) (defBody s_leave) (defScope s_leave) [] [(("slot" : Str), V.str "s")] f_leave _ := ⟨⟨_, _, _, _, _, _, _, _, _, _, rfl, l_leave, c_leave, .inl ⟨rfl, rfl⟩, .inr ⟨kd_leave, rfl, fun q hq => by
    rw [List.mem_singleton.mp hq]; exact ⟨_, n_leave_0, ⟨_, rfl⟩⟩⟩⟩, k_leave⟩
  have b_leave := F_leave.binds0 (ps := ["names", "hands", "slot"]) 2 (fun z => nomatch z) rfl fun D doc pm an cdv ct us ks hu hk => by
    match us, hu, ks, hk with
    | [_, _], _, [_], _ => exact ⟨_, _, _, _, _, _, rfl, rfl, rfl⟩
  have F_l_box := fun_mk (st := s_l_box) l_l_box c_l_box k_l_box
  have b_l_box := F_l_box.binds (ps := ["_law_script", "_law_k"]) fun _ _ _ _ _ _ us hl => match us, hl with | [_, _], _ => rfl
  have F_l_take := fun_mk (st := s_l_take) l_l_take c_l_take k_l_take
  have b_l_take := F_l_take.binds (ps := ["_law_box_here", "_law_many"]) fun _ _ _ _ _ _ us hl => match us, hl with | [_, _], _ => rfl
  have F_l_mixed := fun_mk (st := s_l_mixed) l_l_mixed c_l_mixed k_l_mixed
  have b_l_mixed := F_l_mixed.binds (ps := ["_law_box_here", "_law_items"]) fun _ _ _ _ _ _ us hl => match us, hl with | [_, _], _ => rfl
  have F_l_names := fun_mk (st := s_l_names) l_l_names c_l_names k_l_names
  have b_l_names := F_l_names.binds (ps := ["_law_box_here", "_law_many"]) fun _ _ _ _ _ _ us hl => match us, hl with | [_, _], _ => rfl
  have F_l_next := fun_mk (st := s_l_next) l_l_next c_l_next k_l_next
  have b_l_next := F_l_next.binds (ps := ["_law_state", "_law_hands"]) fun _ _ _ _ _ _ us hl => match us, hl with | [_, _], _ => rfl
  have F_l_least := fun_mk (st := s_l_least) l_l_least c_l_least k_l_least
  have b_l_least := F_l_least.binds (ps := ["_law_names_here", "_law_hands", "_law_most"]) fun _ _ _ _ _ _ us hl => match us, hl with | [_, _, _], _ => rfl
  have F_law := fun_mk (st := s_law) l_law c_law k_law
  refine ⟨PySem.W.fnOf "law" "law" (defArgs s_law) (defBody s_law) (defScope s_law) .none kV_law dc_law pm_law an_law cd_law ct_law, fun s v => .of_eq rfl, fun base _ _ => ?_⟩
  have D_check_leaving : Df l.prog w K mg base 1 "check_leaving" [] C_check := ⟨⟨_, _, _, [], ok_check F_check_leaving B, PySem.W.mg_of X G a_check_leaving, k_check_leaving, b_check_leaving, .nil⟩⟩
  have D_is_stretch : Df l.prog w K mg base 1 "is_stretch" [] C_stretch := ⟨⟨_, _, _, [], ok_stretch F_is_stretch B, PySem.W.mg_of X G a_is_stretch, k_is_stretch, b_is_stretch, .nil⟩⟩
  have D_cuts_of : Df l.prog w K mg base 2 "cuts_of" [] C_cuts := ⟨⟨_, _, _, [], ok_cuts F_cuts_of B D_is_stretch, PySem.W.mg_of X G a_cuts_of, k_cuts_of, b_cuts_of, .nil⟩⟩
  have D_stretch_deeds : Df l.prog w K mg base 1 "stretch_deeds" [] C_stdeeds := ⟨⟨_, _, _, [], ok_stdeeds F_stretch_deeds B, PySem.W.mg_of X G a_stretch_deeds, k_stretch_deeds, b_stretch_deeds, .nil⟩⟩
  have D_leave : Df l.prog w K mg base 3 "leave" [.str "s"] C_leave := by
    obtain ⟨ds, v1, v2⟩ := b_leave
    exact ⟨⟨_, _, _, ds, ok_leave F_leave B D_check_leaving D_cuts_of D_stretch_deeds, PySem.W.mg_of X G a_leave, k_leave, v2, v1⟩⟩
  have D_l_box : Df l.prog w K mg base 1 "_law_box" [] (C_box 7321 43) := ⟨⟨_, _, _, [], ok_box F_l_box B, PySem.W.mg_of X G a_l_box, k_l_box, b_l_box, .nil⟩⟩
  have D_l_take : Df l.prog w K mg base 1 "_law_take" [] C_take := ⟨⟨_, _, _, [], ok_take F_l_take, PySem.W.mg_of X G a_l_take, k_l_take, b_l_take, .nil⟩⟩
  have D_l_mixed : Df l.prog w K mg base 2 "_law_mixed" [] C_mixed := ⟨⟨_, _, _, [], ok_mixed F_l_mixed B D_l_take, PySem.W.mg_of X G a_l_mixed, k_l_mixed, b_l_mixed, .nil⟩⟩
  have D_l_names : Df l.prog w K mg base 3 "_law_names" [] C_names := ⟨⟨_, _, _, [], ok_names F_l_names B D_l_take D_l_mixed, PySem.W.mg_of X G a_l_names, k_l_names, b_l_names, .nil⟩⟩
  have D_l_next : Df l.prog w K mg base 1 "_law_next" [] C_next := ⟨⟨_, _, _, [], ok_next F_l_next B, PySem.W.mg_of X G a_l_next, k_l_next, b_l_next, .nil⟩⟩
  have D_l_least : Df l.prog w K mg base 2 "_law_least" [] C_least := ⟨⟨_, _, _, [], ok_least F_l_least B D_l_next, PySem.W.mg_of X G a_l_least, k_l_least, b_l_least, .nil⟩⟩
  exact ok_law F_law B D_l_box D_l_take D_l_names D_leave D_l_least
theorem walk {l : PySem.W.OpenLaw} {q : Program} {loose : List Str} {XP : (Str → Option Value) → Heap → Prop} {YP : World → Heap → Prop} {d : DefRec} {K : Params → PySem.W.Frag} {m : Nat} (hn : l.most = some m) (hm : m ≤ sizeLine) (hdf : d.params.defaults = [])
    (hY : ∀ (w : World) (h : Heap), YP w h → (K w.params).In h)
    (F : ∀ (w : World) (mg : Str → Option Value) (fa : Addr) (h : Heap), (K w.params).In h → h.Ns mainGlobals mg → mg d.name = some (.ref fa) →
      ∃ fd : FuncData, (∀ (s : Shared) (u : Value), BindsTo s fd ⟨[u], []⟩ [("_law_script", u)]) ∧ ∀ base : Heap, (K w.params).In base → base.Ns mainGlobals mg → FnOk l.prog w (K w.params) mg base CX0 4 fa fd ["_law_script"] (spOf (K w.params) C_law)) :
    PySem.W.WalkO q loose XP YP l.row.toRowW d [] (fun f vs => PySem.call f vs) :=
  L2.walk_of (n := m) (k := 4) (x := "_law_script") (CX := fun _ => CX0) (sp := fun w => spOf (K w.params) C_law) hn hm hdf ⟨rfl, by decide, by decide⟩ hY F (fun w H a ns hl _ hS => sp_law hl hS) fun _ _ _ _ _ z => z
end AF
open PySem PySem.W PyProof.Rows
set_option maxRecDepth 100000 in
set_option maxHeartbeats 0 in
theorem PySem.Challenge.cw_asfound_k43_whole_no_shorter_row_holds : PySem.Challenge.rw_asfound_k43_whole_no_shorter_row.Holds := by
  w_on; o_law; k_head; (case hw => w_witness2)
  k_fill
  refine AF.walk (l := PySem.Challenge.rw_asfound_k43_whole_no_shorter_row) rfl (by decide) rfl (fun w h Y => PySem.W.kIn_of Y) ?F
  case F =>
    intro w mg fa h KX G hmg
    refine' AF.all_mk KX G hmg ?a_check_leaving ?l_check_leaving ?c_check_leaving ?k_check_leaving ?a_is_stretch ?l_is_stretch ?c_is_stretch ?k_is_stretch ?a_cuts_of ?l_cuts_of ?c_cuts_of ?k_cuts_of ?a_stretch_deeds ?l_stretch_deeds ?c_stretch_deeds ?k_stretch_deeds ?a_leave ?l_leave ?c_leave ?k_leave ?n_leave_0 ?a_l_box ?l_l_box ?c_l_box ?k_l_box ?a_l_take ?l_l_take ?c_l_take ?k_l_take ?a_l_mixed ?l_l_mixed ?c_l_mixed ?k_l_mixed ?a_l_names ?l_l_names ?c_l_names ?k_l_names ?a_l_next ?l_l_next ?c_l_next ?k_l_next ?a_l_least ?l_l_least ?c_l_least ?k_l_least ?a_law ?l_law ?c_law ?k_law ?z_len ?z_abs ?z_int ?z_range ?z_list ?z_tuple ?z_sorted ?z_set ?z_max ?z_min ?z_enumerate ?z_zip ?z_sum ?z_repr ?z_isinstance ?z_all ?z_any ?z_dict ?z_reversed ?z_str ?z_bool
    (case a_check_leaving => k_is); (case l_check_leaving => k_is); (case c_check_leaving => k_is); (case k_check_leaving => k_is); (case a_is_stretch => k_is); (case l_is_stretch => k_is)
    (case c_is_stretch => k_is); (case k_is_stretch => k_is); (case a_cuts_of => k_is); (case l_cuts_of => k_is); (case c_cuts_of => k_is); (case k_cuts_of => k_is)
    (case a_stretch_deeds => k_is); (case l_stretch_deeds => k_is); (case c_stretch_deeds => k_is); (case k_stretch_deeds => k_is); (case a_leave => k_is); (case l_leave => k_is)
    (case c_leave => k_is); (case k_leave => k_is); (case n_leave_0 => k_is); (case a_l_box => k_is); (case l_l_box => k_is); (case c_l_box => k_is)
    (case k_l_box => k_is); (case a_l_take => k_is); (case l_l_take => k_is); (case c_l_take => k_is); (case k_l_take => k_is); (case a_l_mixed => k_is)
    (case l_l_mixed => k_is); (case c_l_mixed => k_is); (case k_l_mixed => k_is); (case a_l_names => k_is); (case l_l_names => k_is); (case c_l_names => k_is)
    (case k_l_names => k_is); (case a_l_next => k_is); (case l_l_next => k_is); (case c_l_next => k_is); (case k_l_next => k_is); (case a_l_least => k_is)
    (case l_l_least => k_is); (case c_l_least => k_is); (case k_l_least => k_is); (case a_law => k_is); (case l_law => k_is); (case c_law => k_is)
    (case k_law => k_is); (case z_len => k_is); (case z_abs => k_is); (case z_int => k_is); (case z_range => k_is); (case z_list => k_is)
    (case z_tuple => k_is); (case z_sorted => k_is); (case z_set => k_is); (case z_max => k_is); (case z_min => k_is); (case z_enumerate => k_is)
    (case z_zip => k_is); (case z_sum => k_is); (case z_repr => k_is); (case z_isinstance => k_is); (case z_all => k_is); (case z_any => k_is)
    (case z_dict => k_is); (case z_reversed => k_is); (case z_str => k_is); (case z_bool => k_is)


