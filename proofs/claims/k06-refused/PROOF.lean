import PyProof.Rows.All
import Wide.All
import OpenK.AllK
import Wide.FinOn
import HandS.ForMost
import HandS.Walk
import HandS.Wide
import HandS.IsInst
import HandS.Style
import HandS.SortRule
import KE.KSortTupG
import KE.IntBitsLaws
import HandS.EndBits
import HandS.DictTup
import HandS.ForExc
import HandS.ExcIs
import PySem.Challenge.RW_dialrow_k06_refused
set_option Elab.async false
set_option linter.all false
set_option maxRecDepth 100000
set_option maxHeartbeats 8000000
/-! A layer of our own over HandS: the stable part G of a heap H, and what is owned. -/
namespace Dr
open PySem L2
/-! ### heaps with a stable part -/
theorem same_new {H : Hp} {p : Addr} {o : HO} (h : H p = none) : Same H (upd H p o) := fun b x e => by
  rw [upd_ne (ne_of_none e h)]
  exact e
theorem Same.tup {K : PySem.W.Frag} {H H' : Hp} {a : Addr} {xs : List V} (e : Same H H') (h : SqT K H a xs) : SqT K H' a xs := by
  rcases h with (h | ⟨o, h⟩) | h
  · exact .inl (.inl (e _ _ h))
  · exact .inl (.inr ⟨o, e _ _ h⟩)
  · exact .inr h
structure Gr (G H G' H' : Hp) : Prop where
  g : Same G G'
  h : Same H H'
  s : Same G' H'
  n : ∀ a, H a ≠ none → G a = none → G' a = none
theorem Gr.refl {G H : Hp} (e : Same G H) : Gr G H G H := ⟨Same.refl _, Same.refl _, e, fun _ _ h => h⟩
theorem some_ne {H : Hp} {a : Addr} {o : HO} (h : H a = some o) : H a ≠ none := by rw [h]; exact fun z => by cases z
theorem ne_some {H : Hp} {a : Addr} (h : H a ≠ none) : ∃ o, H a = some o := by
  cases e : H a with
  | none => exact absurd e h
  | some o => exact ⟨o, rfl⟩
theorem Same.ne {H H' : Hp} {a : Addr} (e : Same H H') (h : H a ≠ none) : H' a ≠ none := by
  obtain ⟨o, q⟩ := ne_some h
  exact some_ne (e _ _ q)
theorem Gr.trans {G H G1 H1 G2 H2 : Hp} (a : Gr G H G1 H1) (b : Gr G1 H1 G2 H2) : Gr G H G2 H2 :=
  ⟨a.g.trans b.g, a.h.trans b.h, b.s, fun x h h0 => b.n x (Same.ne a.h h) (a.n x h h0)⟩
/-- a new object, of the stable part -/
theorem Gr.new {G H : Hp} {p : Addr} {o : HO} (e : Same G H) (h : H p = none) : Gr G H (upd G p o) (upd H p o) := by
  have g0 : G p = none := e.free h
  refine ⟨same_new g0, same_new h, fun b x q => ?_, fun a ha h0 => ?_⟩
  · by_cases z : b = p
    · subst z; rw [upd_same] at q ⊢; exact q
    · rw [upd_ne z] at q ⊢; exact e _ _ q
  · have z : a ≠ p := fun z => ha (by rw [z]; exact h)
    rw [upd_ne z]; exact h0
/-- a new object, not of the stable part -/
theorem Gr.out {G H : Hp} {p : Addr} {o : HO} (e : Same G H) (h : H p = none) : Gr G H G (upd H p o) :=
  ⟨Same.refl _, same_new h, e.trans (same_new h), fun _ _ h => h⟩
/-! ### data -/
section
variable {K : PySem.W.Frag} {G G' : Hp}
mutual
theorem Dp.mono (e : Same G G') : ∀ (d : PyData) (v : V), Dp K G v d → Dp K G' v d
  | .none, _, h => by cases h; exact .non
  | .bool b, _, h => by cases h; exact .bl b
  | .int i, _, h => by cases h; exact .int i
  | .str x, _, h => by cases h; exact .str x
  | .list ds, _, h => by
    cases h with
    | lst hs ha => exact .lst (e.seq hs) (Dp.monoAll e ds _ ha)
  | .tuple ds, _, h => by
    cases h with
    | tup hs ha => exact .tup (Same.tup e hs) (Dp.monoAll e ds _ ha)
  | .dict _, _, h => by cases h
theorem Dp.monoAll (e : Same G G') : ∀ (ds : List PyData) (vs : List V), DpAll K G vs ds → DpAll K G' vs ds
  | [], _, h => by cases h; exact .nil
  | d :: ds, _, h => by
    cases h with
    | cons h1 h2 => exact .cons (Dp.mono e d _ h1) (Dp.monoAll e ds _ h2)
end
end
theorem DpAll.len {K : PySem.W.Frag} {G : Hp} : ∀ {vs : List V} {ds : List PyData}, DpAll K G vs ds → vs.length = ds.length
  | _, _, .nil => rfl
  | _, _, .cons _ h => by rw [List.length_cons, List.length_cons, DpAll.len h]
theorem DpAll.get {K : PySem.W.Frag} {G : Hp} : ∀ {vs : List V} {ds : List PyData} {i : Nat} {d : PyData}, DpAll K G vs ds → ds[i]? = some d → ∃ v, vs[i]? = some v ∧ Dp K G v d
  | _, _, i, _, .nil, h => by simp at h
  | _, _, 0, _, .cons h1 _, h => by
    have e := Option.some.inj h
    subst e
    exact ⟨_, rfl, h1⟩
  | _, _, i + 1, _, .cons _ h2, h => DpAll.get (i := i) h2 h
theorem DpAll.append {K : PySem.W.Frag} {G : Hp} : ∀ {vs ws : List V} {ds es : List PyData}, DpAll K G vs ds → DpAll K G ws es → DpAll K G (vs ++ ws) (ds ++ es)
  | _, _, _, _, .nil, h => h
  | _, _, _, _, .cons h1 h2, h => .cons h1 (DpAll.append h2 h)
theorem DpAll.one {K : PySem.W.Frag} {G : Hp} {v : V} {d : PyData} (h : Dp K G v d) : DpAll K G [v] [d] := .cons h .nil
def dI (ns : List Int) : PyData := .list (ns.map .int)
theorem dpAll_ints {K : PySem.W.Frag} {G : Hp} : ∀ ns : List Int, DpAll K G (ns.map V.int) (ns.map PyData.int)
  | [] => .nil
  | n :: ns => .cons (.int n) (dpAll_ints ns)
theorem ints_dpAll {K : PySem.W.Frag} {G : Hp} : ∀ {ns : List Int} {vs : List V}, DpAll K G vs (ns.map PyData.int) → vs = ns.map V.int
  | [], _, h => by cases h; rfl
  | n :: ns, _, h => by
    cases h with
    | cons h1 h2 =>
      cases h1
      rw [ints_dpAll h2]; rfl
theorem dp_ints {K : PySem.W.Frag} {G : Hp} {v : V} {ns : List Int} (h : Dp K G v (dI ns)) : ∃ a, v = .ref a ∧ SqL K G a (ns.map V.int) := by
  unfold dI at h
  cases h with
  | lst hs ha =>
    rw [ints_dpAll ha] at hs
    exact ⟨_, rfl, hs⟩
theorem ints_dp {K : PySem.W.Frag} {G : Hp} {a : Addr} {ns : List Int} (h : SqL K G a (ns.map V.int)) : Dp K G (.ref a) (dI ns) := .lst h (dpAll_ints ns)
theorem map_get {α β : Type} {f : α → β} {l : List α} {i : Nat} {d : β} (h : (l.map f)[i]? = some d) : ∃ x, l[i]? = some x ∧ d = f x := by
  rw [List.getElem?_map] at h
  cases e : l[i]? with
  | none => rw [e] at h; cases h
  | some x => rw [e] at h; exact ⟨x, rfl, (Option.some.inj h).symm⟩
theorem dpAll_bools {K : PySem.W.Frag} {G : Hp} : ∀ {bs : List Bool} {vs : List V}, DpAll K G vs (bs.map PyData.bool) → vs = bs.map V.bl
  | [], _, h => by cases h; rfl
  | n :: ns, _, h => by
    cases h with
    | cons h1 h2 =>
      cases h1
      rw [dpAll_bools h2]; rfl
theorem dp_list {K : PySem.W.Frag} {G : Hp} {v : V} {ds : List PyData} (h : Dp K G v (.list ds)) : ∃ a xs, v = .ref a ∧ SqL K G a xs ∧ DpAll K G xs ds := by
  cases h with
  | lst hs ha => exact ⟨_, _, rfl, hs, ha⟩
theorem dp_tuple {K : PySem.W.Frag} {G : Hp} {v : V} {ds : List PyData} (h : Dp K G v (.tuple ds)) : ∃ a xs, v = .ref a ∧ SqT K G a xs ∧ DpAll K G xs ds := by
  cases h with
  | tup hs ha => exact ⟨_, _, rfl, hs, ha⟩
theorem dp_int {K : PySem.W.Frag} {G : Hp} {v : V} {n : Int} (h : Dp K G v (.int n)) : v = .int n := by cases h; rfl
theorem dp_bool {K : PySem.W.Frag} {G : Hp} {v : V} {b : Bool} (h : Dp K G v (.bool b)) : v = .bl b := by cases h; rfl
/-- a triple of numbers -/
def d3 (t : Int × Int × Int) : PyData := .tuple [.int t.1, .int t.2.1, .int t.2.2]
def dT (ts : List (Int × Int × Int)) : PyData := .list (ts.map d3)
theorem dp_d3 {K : PySem.W.Frag} {G : Hp} {v : V} {t : Int × Int × Int} (h : Dp K G v (d3 t)) : ∃ a, v = .ref a ∧ SqT K G a [.int t.1, .int t.2.1, .int t.2.2] := by
  obtain ⟨a, xs, rfl, hq, ha⟩ := dp_tuple h
  cases ha with
  | cons h1 ha =>
    cases ha with
    | cons h2 ha =>
      cases ha with
      | cons h3 ha =>
        cases ha
        rw [dp_int h1, dp_int h2, dp_int h3] at hq
        exact ⟨_, rfl, hq⟩
theorem dp_pair {K : PySem.W.Frag} {G : Hp} {v : V} {d e : PyData} (h : Dp K G v (.tuple [d, e])) : ∃ a x y, v = .ref a ∧ SqT K G a [x, y] ∧ Dp K G x d ∧ Dp K G y e := by
  obtain ⟨a, xs, rfl, hq, ha⟩ := dp_tuple h
  cases ha with
  | cons h1 ha =>
    cases ha with
    | cons h2 ha =>
      cases ha
      exact ⟨_, _, _, rfl, hq, h1, h2⟩
theorem dp_pairI {K : PySem.W.Frag} {G : Hp} {v : V} {i j : Int} (h : Dp K G v (.tuple [.int i, .int j])) : ∃ a, v = .ref a ∧ SqT K G a [.int i, .int j] := by
  obtain ⟨a, x, y, rfl, hq, h1, h2⟩ := dp_pair h
  rw [dp_int h1, dp_int h2] at hq
  exact ⟨_, rfl, hq⟩
/-! ### the state: G0, H0 at the entry; what is known; what is owned -/
structure S (K : PySem.W.Frag) (G0 H0 : Hp) (Γ : List (V × PyData)) (Λ : List (Addr × HO)) (G H : Hp) : Prop where
  gr : Gr G0 H0 G H
  st : ∀ p ∈ Γ, Dp K G p.1 p.2
  ow : ∀ q ∈ Λ, H0 q.1 = none ∧ G q.1 = none ∧ H q.1 = some q.2
  nd : (Λ.map (·.1)).Nodup
section
variable {K : PySem.W.Frag} {G0 H0 G H G' H' : Hp} {Γ Γ' : List (V × PyData)} {Λ Λ' : List (Addr × HO)}
theorem S.start (e : Same G H) (h : ∀ p ∈ Γ, Dp K G p.1 p.2) : S K G H Γ [] G H := ⟨Gr.refl e, h, fun _ h => (nomatch h), List.nodup_nil⟩
theorem S.same (s : S K G0 H0 Γ Λ G H) : Same G H := s.gr.s
theorem S.grow (s : S K G0 H0 Γ Λ G H) (g : Gr G H G' H') : S K G0 H0 Γ Λ G' H' :=
  ⟨s.gr.trans g, fun p hp => Dp.mono g.g _ _ (s.st p hp), fun q hq => let ⟨a, b, c⟩ := s.ow q hq; ⟨a, g.n _ (some_ne c) b, g.h _ _ c⟩, s.nd⟩
theorem S.g (s : S K G0 H0 Γ Λ G H) (i : Nat) {v : V} {d : PyData} (h : Γ[i]? = some (v, d)) : Dp K G v d := s.st (v, d) (List.mem_of_getElem? h)
theorem S.o (s : S K G0 H0 Γ Λ G H) (i : Nat) {l : Addr} {o : HO} (h : Λ[i]? = some (l, o)) : H l = some o := (s.ow (l, o) (List.mem_of_getElem? h)).2.2
theorem S.og (s : S K G0 H0 Γ Λ G H) (i : Nat) {l : Addr} {o : HO} (h : Λ[i]? = some (l, o)) : G l = none := (s.ow (l, o) (List.mem_of_getElem? h)).2.1
theorem S.oh (s : S K G0 H0 Γ Λ G H) (i : Nat) {l : Addr} {o : HO} (h : Λ[i]? = some (l, o)) : H0 l = none := (s.ow (l, o) (List.mem_of_getElem? h)).1
theorem S.h (s : S K G0 H0 Γ Λ G H) (i : Nat) {v : V} {d : PyData} (h : Γ[i]? = some (v, d)) : Dp K H v d := Dp.mono s.gr.s _ _ (s.g i h)
theorem S.add (s : S K G0 H0 Γ Λ G H) {v : V} {d : PyData} (h : Dp K G v d) : S K G0 H0 ((v, d) :: Γ) Λ G H :=
  ⟨s.gr, fun p hp => by
    rcases List.mem_cons.mp hp with e | hp
    · subst e; exact h
    · exact s.st p hp, s.ow, s.nd⟩
theorem S.less (s : S K G0 H0 Γ Λ G H) (h : ∀ p ∈ Γ', p ∈ Γ) : S K G0 H0 Γ' Λ G H := ⟨s.gr, fun p hp => s.st p (h p hp), s.ow, s.nd⟩
theorem S.tail {q : V × PyData} (s : S K G0 H0 (q :: Γ) Λ G H) : S K G0 H0 Γ Λ G H := s.less fun p hp => List.mem_cons_of_mem _ hp
theorem S.sel (s : S K G0 H0 Γ Λ G H) (is : List Nat) : S K G0 H0 (is.filterMap fun i => Γ[i]?) Λ G H := s.less fun p hp => by
  obtain ⟨i, _, e⟩ := List.mem_filterMap.mp hp
  exact List.mem_of_getElem? e
/-- a new object, owned -/
theorem S.new (s : S K G0 H0 Γ Λ G H) {p : Addr} {o : HO} (h : H p = none) : S K G0 H0 Γ ((p, o) :: Λ) G (upd H p o) := by
  have s1 := s.grow (Gr.out (o := o) s.gr.s h)
  refine ⟨s1.gr, s1.st, fun q hq => ?_, ?_⟩
  · rcases List.mem_cons.mp hq with e | hq
    · subst e; exact ⟨s.gr.h.free h, s.gr.s.free h, upd_same⟩
    · exact s1.ow q hq
  · rw [List.map_cons, List.nodup_cons]
    refine ⟨fun hm => ?_, s.nd⟩
    obtain ⟨q, hq, e⟩ := List.mem_map.mp hm
    have z := (s.ow q hq).2.2
    rw [e] at z
    rw [h] at z
    cases z
/-- a new tuple, known -/
theorem S.tup (s : S K G0 H0 Γ Λ G H) {p : Addr} {xs : List V} {ds : List PyData} (h : H p = none) (hd : DpAll K G xs ds) : S K G0 H0 ((.ref p, .tuple ds) :: Γ) Λ (upd G p (.tup xs)) (upd H p (.tup xs)) := by
  have g := Gr.new (o := HO.tup xs) s.gr.s h
  exact (s.grow g).add (.tup (.inl (.inl upd_same)) (Dp.monoAll g.g _ _ hd))
/-- a new list, known at once -/
theorem S.lst (s : S K G0 H0 Γ Λ G H) {p : Addr} {xs : List V} {ds : List PyData} (h : H p = none) (hd : DpAll K G xs ds) : S K G0 H0 ((.ref p, .list ds) :: Γ) Λ (upd G p (.lst xs)) (upd H p (.lst xs)) := by
  have g := Gr.new (o := HO.lst xs) s.gr.s h
  exact (s.grow g).add (.lst (.inl (.inl upd_same)) (Dp.monoAll g.g _ _ hd))
/-- what is owned may change -/
theorem S.put (s : S K G0 H0 Γ Λ G H) (i : Nat) {l : Addr} {o : HO} (h : Λ[i]? = some (l, o)) (o' : HO) : S K G0 H0 Γ (Λ.set i (l, o')) G (upd H l o') := by
  have h0 := s.oh i h
  have hg := s.og i h
  obtain ⟨hi, hv⟩ := List.getElem?_eq_some_iff.mp h
  refine ⟨⟨s.gr.g, fun b x e => ?_, fun b x e => ?_, s.gr.n⟩, s.st, fun q hq => ?_, ?_⟩
  · rw [upd_ne (fun z => by rw [z, h0] at e; cases e)]; exact s.gr.h _ _ e
  · rw [upd_ne (fun z => by rw [z, hg] at e; cases e)]; exact s.gr.s _ _ e
  · obtain ⟨j, hj, e⟩ := List.getElem_of_mem hq
    rw [List.length_set] at hj
    rw [List.getElem_set] at e
    by_cases z : i = j
    · rw [if_pos z] at e
      subst e
      exact ⟨h0, hg, upd_same⟩
    · rw [if_neg z] at e
      have hm : q ∈ Λ := by rw [← e]; exact List.getElem_mem hj
      obtain ⟨a, b, c⟩ := s.ow q hm
      refine ⟨a, b, ?_⟩
      rw [upd_ne]
      · exact c
      · intro zz
        apply z
        have n1 : (Λ.map (·.1))[i]? = some l := by rw [List.getElem?_map, h]; rfl
        have n2 : (Λ.map (·.1))[j]? = some l := by rw [List.getElem?_map, List.getElem?_eq_getElem hj, e, ← zz]; rfl
        obtain ⟨b1, e1⟩ := List.getElem?_eq_some_iff.mp n1
        obtain ⟨b2, e2⟩ := List.getElem?_eq_some_iff.mp n2
        exact (List.getElem_inj s.nd).mp (e1.trans e2.symm)
  · have e : (Λ.set i (l, o')).map (·.1) = Λ.map (·.1) := by
      rw [List.map_set]
      refine List.ext_getElem? fun j => ?_
      rw [List.getElem?_set]
      by_cases z : i = j
      · subst z
        rw [if_pos rfl, if_pos (by rw [List.length_map]; exact hi), List.getElem?_map, h]; rfl
      · rw [if_neg z]
    rw [e]
    exact s.nd
/-- an owned list is owned no more -/
theorem S.give {l : Addr} {xs : List V} {ds : List PyData} (s : S K G0 H0 Γ ((l, .lst xs) :: Λ) G H) (hd : DpAll K G xs ds) : S K G0 H0 ((.ref l, .list ds) :: Γ) Λ (upd G l (.lst xs)) H := by
  obtain ⟨h0, hg, hh⟩ := s.ow _ List.mem_cons_self
  have gg : Same G (upd G l (.lst xs)) := same_new hg
  have nd := s.nd
  rw [List.map_cons, List.nodup_cons] at nd
  refine S.add ⟨⟨s.gr.g.trans gg, s.gr.h, fun b x e => ?_, fun a ha ha0 => ?_⟩, fun p hp => Dp.mono gg _ _ (s.st p hp), fun q hq => ?_, nd.2⟩ (.lst (.inl (.inl upd_same)) (Dp.monoAll gg _ _ hd))
  · by_cases z : b = l
    · subst z; rw [upd_same] at e; rw [← e]; exact hh
    · rw [upd_ne z] at e; exact s.gr.s _ _ e
  · have z : a ≠ l := fun z => ha (by rw [z]; exact h0)
    rw [upd_ne z]; exact s.gr.n _ ha ha0
  · obtain ⟨a, b, c⟩ := s.ow q (List.mem_cons_of_mem _ hq)
    refine ⟨a, ?_, c⟩
    rw [upd_ne]
    · exact b
    · intro z
      exact nd.1 (List.mem_map.mpr ⟨q, hq, z⟩)
/-- what is owned is forgotten -/
theorem S.drop {q : Addr × HO} (s : S K G0 H0 Γ (q :: Λ) G H) : S K G0 H0 Γ Λ G H := by
  have nd := s.nd
  rw [List.map_cons, List.nodup_cons] at nd
  exact ⟨s.gr, s.st, fun p hp => s.ow p (List.mem_cons_of_mem _ hp), nd.2⟩
theorem S.only (s : S K G0 H0 Γ Λ G H) : S K G0 H0 Γ [] G H := ⟨s.gr, s.st, fun _ h => (nomatch h), List.nodup_nil⟩
/-- owned ones in another order -/
theorem S.swap {p q : Addr × HO} (s : S K G0 H0 Γ (p :: q :: Λ) G H) : S K G0 H0 Γ (q :: p :: Λ) G H := by
  have nd := s.nd
  refine ⟨s.gr, s.st, fun x hx => s.ow x ?_, ?_⟩
  · simp only [List.mem_cons] at hx ⊢
    rcases hx with h | h | h
    · exact .inr (.inl h)
    · exact .inl h
    · exact .inr (.inr h)
  · simp only [List.map_cons, List.nodup_cons, List.mem_cons, not_or] at nd ⊢
    exact ⟨⟨fun h => nd.1.1 h.symm, nd.2.1⟩, nd.1.2, nd.2.2⟩
end
section
variable {K : PySem.W.Frag} {G0 H0 G H : Hp} {Γ : List (V × PyData)} {Λ : List (Addr × HO)}
/-- one more object that is owned -/
theorem S.own (s : S K G0 H0 Γ Λ G H) {l : Addr} {o : HO} (h0 : H0 l = none) (hg : G l = none) (hh : H l = some o) (hn : l ∉ Λ.map (·.1)) : S K G0 H0 Γ ((l, o) :: Λ) G H := by
  refine ⟨s.gr, s.st, fun q hq => ?_, ?_⟩
  · rcases List.mem_cons.mp hq with e | hq
    · subst e; exact ⟨h0, hg, hh⟩
    · exact s.ow q hq
  · rw [List.map_cons, List.nodup_cons]
    exact ⟨hn, s.nd⟩
/-- what is new is none of the owned -/
theorem S.fresh (s : S K G0 H0 Γ Λ G H) {l : Addr} (h : H l = none) : l ∉ Λ.map (·.1) := fun hm => by
  obtain ⟨q, hq, e⟩ := List.mem_map.mp hm
  have z := (s.ow q hq).2.2
  rw [e, h] at z
  cases z
end
/-! ### what a def hands back -/
/-- some value of that data -/
def Rt (K : PySem.W.Frag) (G H : Hp) (d : PyData) (Q : VK) : Prop := ∀ v G' H', Gr G H G' H' → Dp K G' v d → Q v H'
/-- the value v itself -/
def RtV (G H : Hp) (v : V) (Q : VK) : Prop := ∀ G' H', Gr G H G' H' → Q v H'
/-- a new list of that data -/
def RtL (K : PySem.W.Frag) (G H : Hp) (ds : List PyData) (Q : VK) : Prop := ∀ l xs G' H', Gr G H G' H' → H l = none → G' l = none → H' l = some (.lst xs) → DpAll K G' xs ds → Q (.ref l) H'
section
variable {K : PySem.W.Frag} {G0 H0 G H G' H' : Hp} {Γ Γ' : List (V × PyData)} {Λ Λ' : List (Addr × HO)}
/-- behind a call that gives a new list: owned -/
theorem S.got (s : S K G0 H0 Γ Λ G H) {l : Addr} {xs : List V} (g : Gr G H G' H') (h0 : H l = none) (hg : G' l = none) (hh : H' l = some (.lst xs)) : S K G0 H0 Γ ((l, .lst xs) :: Λ) G' H' := by
  have s1 := s.grow g
  refine ⟨s1.gr, s1.st, fun q hq => ?_, ?_⟩
  · rcases List.mem_cons.mp hq with e | hq
    · subst e; exact ⟨s.gr.h.free h0, hg, hh⟩
    · exact s1.ow q hq
  · rw [List.map_cons, List.nodup_cons]
    refine ⟨fun hm => ?_, s.nd⟩
    obtain ⟨q, hq, e⟩ := List.mem_map.mp hm
    have z := (s.ow q hq).2.2
    rw [e, h0] at z
    cases z
theorem RtL.out {ds : List PyData} {Q : VK} (q : RtL K G0 H0 ds Q) {l : Addr} {xs : List V} (s : S K G0 H0 Γ ((l, .lst xs) :: Λ) G H) (hd : DpAll K G xs ds) : Q (.ref l) H :=
  q l xs G H s.gr (s.oh 0 rfl) (s.og 0 rfl) (s.o 0 rfl) hd
theorem Rt.out {d : PyData} {Q : VK} (q : Rt K G0 H0 d Q) {v : V} (s : S K G0 H0 Γ Λ G H) (hd : Dp K G v d) : Q v H := q v G H s.gr hd
theorem RtV.out {v : V} {Q : VK} (q : RtV G0 H0 v Q) (s : S K G0 H0 Γ Λ G H) : Q v H := q G H s.gr
end
/-! ### what is walked -/
structure Wk (K : PySem.W.Frag) (J : It) (n : Nat) (G0 : Hp) (Y : Nat → PyData → Prop) : Prop where
  goes : ∀ i G H, i < n → Same G0 G → Same G H → J.go i H
  stops : ∀ G H, Same G0 G → Same G H → J.stop n H
  yields : ∀ i G H x H', i < n → Same G0 G → Same G H → J.yld i H x H' → ∃ G' d, Gr G H G' H' ∧ Y i d ∧ Dp K G' x d
section
variable {K : PySem.W.Frag} {G : Hp} {ds es : List PyData}
theorem at_get {xs : List V} {i : Nat} (h : i < xs.length) : xs[i]? = some xs[i] := List.getElem?_eq_getElem h
theorem wk_list {a : Addr} {xs : List V} (hq : SqL K G a xs) (ha : DpAll K G xs ds) : Wk K (Itl K a) ds.length G (fun i d => ds[i]? = some d) := by
  have hl := DpAll.len ha
  refine ⟨fun i G1 H1 hi e1 e2 => ⟨xs, xs[i], e2.seq (e1.seq hq), at_get (by omega)⟩, fun G1 H1 e1 e2 => ⟨xs, e2.seq (e1.seq hq), by omega⟩, fun i G1 H1 x H' hi e1 e2 y => ?_⟩
  obtain ⟨rfl, y⟩ := y
  have hx := y xs (e2.seq (e1.seq hq))
  obtain ⟨u, hu, du⟩ := DpAll.get ha (List.getElem?_eq_getElem hi)
  rw [hu] at hx
  cases hx
  exact ⟨G1, ds[i], Gr.refl e2, List.getElem?_eq_getElem hi, Dp.mono e1 _ _ du⟩
theorem wk_tup {a : Addr} {xs : List V} (hq : SqT K G a xs) (ha : DpAll K G xs ds) : Wk K (Itt K a) ds.length G (fun i d => ds[i]? = some d) := by
  have hl := DpAll.len ha
  refine ⟨fun i G1 H1 hi e1 e2 => ⟨xs, xs[i], Same.tup e2 (Same.tup e1 hq), at_get (by omega)⟩, fun G1 H1 e1 e2 => ⟨xs, Same.tup e2 (Same.tup e1 hq), by omega⟩, fun i G1 H1 x H' hi e1 e2 y => ?_⟩
  obtain ⟨rfl, y⟩ := y
  have hx := y xs (Same.tup e2 (Same.tup e1 hq))
  obtain ⟨u, hu, du⟩ := DpAll.get ha (List.getElem?_eq_getElem hi)
  rw [hu] at hx
  cases hx
  exact ⟨G1, ds[i], Gr.refl e2, List.getElem?_eq_getElem hi, Dp.mono e1 _ _ du⟩
theorem wk_rng {lo : Int} {n : Nat} : Wk K (Itr lo n) n G (fun i d => d = .int (lo + i)) :=
  ⟨fun i _ _ hi _ _ => hi, fun _ _ _ _ => Nat.le_refl _, fun i G1 H1 x H' hi e1 e2 y => by
    obtain ⟨rfl, rfl⟩ := y
    exact ⟨G1, _, Gr.refl e2, rfl, .int _⟩⟩
theorem wk_zip {a b : Addr} {xs ys : List V} (hq : SqL K G a xs) (ha : DpAll K G xs ds) (hq2 : SqL K G b ys) (ha2 : DpAll K G ys es) :
    Wk K (Itz K a b) (min ds.length es.length) G (fun i d => ∃ x y, ds[i]? = some x ∧ es[i]? = some y ∧ d = .tuple [x, y]) := by
  have hl := DpAll.len ha
  have hl2 := DpAll.len ha2
  refine ⟨fun i G1 H1 hi e1 e2 => ⟨xs, ys, xs[i], ys[i], e2.seq (e1.seq hq), e2.seq (e1.seq hq2), at_get (by omega), at_get (by omega)⟩, fun G1 H1 e1 e2 => ⟨xs, ys, e2.seq (e1.seq hq), e2.seq (e1.seq hq2), by omega⟩, fun i G1 H1 x H' hi e1 e2 y => ?_⟩
  obtain ⟨T, x1, x2, rfl, nT, rfl, f1, f2⟩ := y
  have g1 := f1 _ (e2.seq (e1.seq hq))
  have g2 := f2 _ (e2.seq (e1.seq hq2))
  have i1 : i < ds.length := by omega
  have i2 : i < es.length := by omega
  obtain ⟨u, hu, du⟩ := DpAll.get ha (List.getElem?_eq_getElem i1)
  obtain ⟨u2, hu2, du2⟩ := DpAll.get ha2 (List.getElem?_eq_getElem i2)
  rw [hu] at g1
  rw [hu2] at g2
  cases g1
  cases g2
  have g := Gr.new (o := HO.tup [x1, x2]) e2 nT
  exact ⟨_, .tuple [ds[i], es[i]], g, ⟨_, _, List.getElem?_eq_getElem i1, List.getElem?_eq_getElem i2, rfl⟩, .tup (.inl (.inl upd_same)) (.cons (Dp.mono (e1.trans g.g) _ _ du) (.cons (Dp.mono (e1.trans g.g) _ _ du2) .nil))⟩
theorem wk_enum {a : Addr} {xs : List V} (hq : SqL K G a xs) (ha : DpAll K G xs ds) : Wk K (Ite K a) ds.length G (fun i d => ∃ x, ds[i]? = some x ∧ d = .tuple [.int i, x]) := by
  have hl := DpAll.len ha
  refine ⟨fun i G1 H1 hi e1 e2 => ⟨xs, xs[i], e2.seq (e1.seq hq), at_get (by omega)⟩, fun G1 H1 e1 e2 => ⟨xs, e2.seq (e1.seq hq), by omega⟩, fun i G1 H1 x H' hi e1 e2 y => ?_⟩
  obtain ⟨T, x1, rfl, nT, rfl, f1⟩ := y
  have g1 := f1 _ (e2.seq (e1.seq hq))
  obtain ⟨u, hu, du⟩ := DpAll.get ha (List.getElem?_eq_getElem hi)
  rw [hu] at g1
  cases g1
  have g := Gr.new (o := HO.tup [V.int i, x1]) e2 nT
  exact ⟨_, .tuple [.int i, ds[i]], g, ⟨_, List.getElem?_eq_getElem hi, rfl⟩, .tup (.inl (.inl upd_same)) (.cons (.int _) (.cons (Dp.mono (e1.trans g.g) _ _ du) .nil))⟩
end
/-- a for -/
theorem for_wk {K : PySem.W.Frag} {J : It} {n : Nat} {Gw : Hp} {Y : Nat → PyData → Prop} (w : Wk K J n Gw Y) {g : TG} {tb : TS} {D : Ends} {σ : St} {H : Hp} (Pv : Nat → St → Hp → Hp → Prop)
    (h0 : ∃ G, Pv 0 σ G H) (hG : ∀ i σ G H, Pv i σ G H → Same Gw G ∧ Same G H)
    (hs : ∀ i d x σ G H G1 H1, i < n → Pv i σ G H → Gr G H G1 H1 → Y i d → Dp K G1 x d →
      g x σ H1 fun σ2 H2 => tb { D with nx := fun σ H => ∃ G, Pv (i + 1) σ G H, ct := fun σ H => ∃ G, Pv (i + 1) σ G H, bk := D.nx } σ2 H2) (hd : ∀ σ G H, Pv n σ G H → D.nx σ H) :
    ∃ W : Nat → Nat → St → Hp → Prop, (∃ m, W 0 m σ H) ∧ ∀ i m σ H, W i m σ H →
      (J.stop i H ∧ D.nx σ H) ∨ (J.go i H ∧ ∃ N : St → Hp → Prop, (∀ σ' H', N σ' H' → ∃ m', m' < m ∧ W (i + 1) m' σ' H') ∧ ∀ x H', J.yld i H x H' → g x σ H' fun σ2 H2 => tb { D with nx := N, ct := N, bk := D.nx } σ2 H2) := by
  refine ⟨fun i m σ H => m = n - i ∧ i ≤ n ∧ ∃ G, Pv i σ G H, ⟨n, by simp, Nat.zero_le _, h0⟩, ?_⟩
  rintro i m σ H ⟨rfl, hi, G, p⟩
  obtain ⟨e1, e2⟩ := hG i σ G H p
  by_cases hlt : i < n
  · refine .inr ⟨w.goes i G H hlt e1 e2, fun σ H => ∃ G, Pv (i + 1) σ G H, fun σ' H' p' => ⟨n - (i + 1), by omega, rfl, hlt, p'⟩, fun x H' y => ?_⟩
    obtain ⟨G1, d, g1, hy, hx⟩ := w.yields i G H x H' hlt e1 e2 y
    exact hs i d x σ G H G1 H' hlt p g1 hy hx
  · have e : i = n := by omega
    subst e
    exact .inl ⟨w.stops G H e1 e2, hd σ G H p⟩
/-- a comprehension without tests -/
theorem lc_wk {K : PySem.W.Frag} {J : It} {n : Nat} {Gw : Hp} {Y : Nat → PyData → Prop} (w : Wk K J n Gw Y) {g : TG} {te : TE} {vs : List Nat} {σ : St} {G0 H0 G H : Hp} {Γ : List (V × PyData)} {Λ : List (Addr × HO)} {D : Addr} {Qd : Hp → Prop}
    (s : S K G0 H0 Γ Λ G H) (hD : H D = none) (hw : Same Gw G) (hn : n < sizeLine) (out : List PyData) (hl : out.length = n)
    (he : ∀ i d x G1 H1, i < n → Y i d → S K G0 H0 Γ Λ G1 H1 → Dp K G1 x d → ∀ R : V → Hp → Prop, (∀ y G3 H3 e, Gr G1 H1 G3 H3 → out[i]? = some e → Dp K G3 y e → R y H3) → g x (wipe σ vs) H1 fun σ2 H2 => wipe σ2 vs = wipe σ vs ∧ te σ2 H2 R)
    (hq : ∀ xs G1 H1, S K G0 H0 Γ ((D, .lst xs) :: Λ) G1 H1 → DpAll K G1 xs out → Qd H1) :
    ∃ W : Nat → Nat → Hp → Prop, (∃ m, W 0 m (upd H D (.lst []))) ∧ ∀ i m H, W i m H →
      (J.stop i H ∧ Qd H) ∨ (J.go i H ∧ ∃ Nx : Hp → Prop, (∀ H', Nx H' → ∃ m', m' < m ∧ W (i + 1) m' H') ∧ ∀ x H', J.yld i H x H' → g x (wipe σ vs) H' fun σ2 H2 => wipe σ2 vs = wipe σ vs ∧ tYes σ2 H2 fun b H3 =>
        if b = true then te σ2 H3 fun y H4 => ∃ acc, H4 D = some (.lst acc) ∧ acc.length < sizeLine ∧ Nx (upd H4 D (.lst (acc ++ [y]))) else Nx H3) := by
  refine ⟨fun i m H => m = n - i ∧ i ≤ n ∧ ∃ G acc, S K G0 H0 Γ ((D, .lst acc) :: Λ) G H ∧ Same Gw G ∧ DpAll K G acc (out.take i), ⟨n, by simp, Nat.zero_le _, G, [], s.new hD, hw, by rw [List.take_zero]; exact .nil⟩, ?_⟩
  rintro i m H ⟨rfl, hi, G, acc, s, e1, hacc⟩
  by_cases hlt : i < n
  · refine .inr ⟨w.goes i G H hlt e1 s.same, fun H => ∃ G acc, S K G0 H0 Γ ((D, .lst acc) :: Λ) G H ∧ Same Gw G ∧ DpAll K G acc (out.take (i + 1)), fun H' p' => ⟨n - (i + 1), by omega, rfl, hlt, p'⟩, fun x H' y => ?_⟩
    obtain ⟨G1, d, g1, hy, hx⟩ := w.yields i G H x H' hlt e1 s.same y
    have s1 := s.grow g1
    refine he i d x G1 H' hlt hy s1.drop hx _ fun y G3 H3 e g3 ho hy3 => ?_
    have s3 := s1.grow g3
    have ha : acc.length < sizeLine := by
      have := DpAll.len hacc
      rw [List.length_take] at this
      omega
    refine ⟨acc, s3.o 0 rfl, ha, G3, acc ++ [y], s3.put 0 rfl _, (e1.trans g1.g).trans g3.g, ?_⟩
    rw [List.take_add_one, ho]
    exact DpAll.append (Dp.monoAll (g1.g.trans g3.g) _ _ hacc) (DpAll.one hy3)
  · have e : i = n := by omega
    subst e
    refine .inl ⟨w.stops G H e1 s.same, hq acc G H s ?_⟩
    rw [List.take_of_length_le (by omega)] at hacc
    exact hacc

/-! ### an owned list handed to a call -/
def del (G : Hp) (l : Addr) : Hp := fun b => if b = l then none else G b
theorem del_ne {G : Hp} {l b : Addr} (h : b ≠ l) : del G l b = G b := if_neg h
theorem del_same {G : Hp} {l : Addr} : del G l l = none := if_pos rfl
theorem Gr.back {G H G2 H2 : Hp} {l : Addr} {o : HO} (hg : G l = none) (g : Gr (upd G l o) H G2 H2) : Gr G H (del G2 l) H2 := by
  refine ⟨fun b x e => ?_, g.h, fun b x e => ?_, fun a ha h0 => ?_⟩
  · have z : b ≠ l := fun z => by rw [z, hg] at e; cases e
    rw [del_ne z]
    exact g.g b x (by rw [upd_ne z]; exact e)
  · by_cases z : b = l
    · subst z; rw [del_same] at e; cases e
    · rw [del_ne z] at e; exact g.s b x e
  · by_cases z : a = l
    · subst z; exact del_same
    · rw [del_ne z]
      exact g.n a ha (by rw [upd_ne z]; exact h0)
theorem DpAll.take {K : PySem.W.Frag} {G : Hp} : ∀ {vs : List V} {ds : List PyData} (k : Nat), DpAll K G vs ds → DpAll K G (vs.take k) (ds.take k)
  | _, _, 0, _ => by rw [List.take_zero, List.take_zero]; exact .nil
  | _, _, k + 1, .nil => .nil
  | _, _, k + 1, .cons h1 h2 => .cons h1 (DpAll.take k h2)
theorem DpAll.drop {K : PySem.W.Frag} {G : Hp} : ∀ {vs : List V} {ds : List PyData} (k : Nat), DpAll K G vs ds → DpAll K G (vs.drop k) (ds.drop k)
  | _, _, 0, h => h
  | _, _, k + 1, .nil => .nil
  | _, _, k + 1, .cons h1 h2 => DpAll.drop k h2
/-! ### slices -/
theorem cut_hi (xs : List V) (k : Nat) : cutV xs none (some (k : Int)) = xs.take k := by
  unfold cutV
  rw [HT.sIx_none, HT.sIx_nat, List.drop_zero, Nat.sub_zero]
  by_cases h : k ≤ xs.length
  · rw [Nat.min_eq_left h]
  · rw [Nat.min_eq_right (by omega), List.take_of_length_le (Nat.le_refl _), List.take_of_length_le (by omega)]
theorem cut_lo (xs : List V) (k : Nat) : cutV xs (some (k : Int)) none = xs.drop k := by
  unfold cutV
  rw [HT.sIx_none, HT.sIx_nat]
  by_cases h : k ≤ xs.length
  · rw [Nat.min_eq_left h, List.take_of_length_le (by rw [List.length_drop]; omega)]
  · rw [Nat.min_eq_right (by omega), List.drop_of_length_le (Nat.le_refl _), List.drop_of_length_le (by omega), List.take_nil]
end Dr

namespace Dr
open PySem PySem.Spec PyProof.Rows L2
section
variable {X : Cx} {a b c d : Expr} {ta tb tc td : TE} {pos : Pos}
/-- a op1 b op2 c op3 d -/
def tChain3 (r r' r'' : R2) (ta tb tc td : TE) : TE := fun σ H Q => ta σ H fun x H1 => tb σ H1 fun y H2 => r x y H2 fun z H3 => ∃ k, z = .bl k ∧
  (if k = true then tc σ H3 fun w' H4 => r' y w' H4 fun z' H5 => ∃ k', z' = .bl k' ∧ (if k' = true then td σ H5 fun q H6 => r'' w' q H6 Q else Q (.bl false) H5) else Q (.bl false) H3)
theorem pe_chain3 {op op' op'' : CmpOp} {r r' r'' : R2} (ho : OpR X (compareOp op) r) (ho' : OpR X (compareOp op') r') (ho'' : OpR X (compareOp op'') r'') (ha : PE X a ta) (hb : PE X b tb) (hc : PE X c tc) (hd : PE X d td)
    (hm : lastMarks [op, op', op''] [b, c, d] = false := by with_unfolding_all rfl) : PE X (.Compare a [op, op', op''] [b, c, d] pos) (tChain3 r r' r'' ta tb tc td) := by
  refine ⟨fun pins s σ H Q I h => ?_⟩
  refine Compare_chain (thn (ha.run pins s σ H _ I h) fun v s1 ⟨x, H1, I1, r1, q1⟩ => chain_link (thn (hb.run pins s1 σ H1 _ I1 q1) fun u s2 ⟨y, H2, I2, r2, q2⟩ =>
    thn (ho pins s2 σ H2 x y v u _ I2 r1 r2 q2) fun d s3 ⟨z, H3, I3, r3, k, e, q3⟩ => ?_)) hm
  subst e
  cases r3
  refine wpAny_truthy_bool ?_
  cases k with
  | false => exact ite_ff ⟨.bl false, H3, I3, rfl, q3⟩
  | true =>
    refine ite_tt (chain_link (thn (hc.run pins s3 σ H3 _ I3 q3) fun w' s4 ⟨z', H4, I4, r4, q4⟩ => thn (ho' pins s4 σ H4 y z' u w' _ I4 r2 r4 q4) fun d' s5 ⟨z5, H5, I5, r5, k', e', q5⟩ => ?_))
    subst e'
    cases r5
    refine wpAny_truthy_bool ?_
    cases k' with
    | false => exact ite_ff ⟨.bl false, H5, I5, rfl, q5⟩
    | true => exact ite_tt (chain_last (thn (hd.run pins s5 σ H5 _ I5 q5) fun w6 s6 ⟨z6, H6, I6, r6, q6⟩ => ho'' pins s6 σ H6 z' z6 w' w6 Q I6 r4 r6 q6))
theorem pt_chain3 {op op' op'' : CmpOp} {r r' r'' : R2} (ho : OpR X (compareOp op) r) (ho' : OpR X (compareOp op') r') (ho'' : OpR X (compareOp op'') r'') (ha : PE X a ta) (hb : PE X b tb) (hc : PE X c tc) (hd : PE X d td)
    (hm : lastMarks [op, op', op''] [b, c, d] = false := by with_unfolding_all rfl) : PT X (.Compare a [op, op', op''] [b, c, d] pos) (tTest (tChain3 r r' r'' ta tb tc td)) := by
  refine ⟨fun pins s σ H Q I h => ?_⟩
  refine isTrue_chain (thn (ha.run pins s σ H _ I h) fun v s1 ⟨x, H1, I1, r1, q1⟩ => test_link (thn (hb.run pins s1 σ H1 _ I1 q1) fun u s2 ⟨y, H2, I2, r2, q2⟩ =>
    thn (ho pins s2 σ H2 x y v u _ I2 r1 r2 q2) fun d s3 ⟨z, H3, I3, r3, k, e, q3⟩ => ?_)) hm
  subst e
  cases r3
  refine wpAny_truthy_bool ?_
  cases k with
  | false =>
    obtain ⟨k', e', q'⟩ := q3
    cases e'
    exact ite_ff ⟨H3, I3, q'⟩
  | true =>
    refine ite_tt (test_link (thn (hc.run pins s3 σ H3 _ I3 q3) fun w' s4 ⟨z', H4, I4, r4, q4⟩ => thn (ho' pins s4 σ H4 y z' u w' _ I4 r2 r4 q4) fun d' s5 ⟨z5, H5, I5, r5, k', e', q5⟩ => ?_))
    subst e'
    cases r5
    refine wpAny_truthy_bool ?_
    cases k' with
    | false =>
      obtain ⟨k2, e2, q'⟩ := q5
      cases e2
      exact ite_ff ⟨H5, I5, q'⟩
    | true =>
      refine ite_tt (test_last (thn (hd.run pins s5 σ H5 _ I5 q5) fun w6 s6 ⟨z6, H6, I6, r6, q6⟩ => thn (ho'' pins s6 σ H6 z' z6 w' w6 _ I6 r4 r6 q6) fun d7 s7 ⟨z7, H7, I7, r7, k7, e7, q7⟩ => ?_))
      subst e7
      cases r7
      exact wpAny_truthy_bool ⟨H7, I7, q7⟩
/-- * of any two numbers below the line -/
theorem op_mulB : OpR X (binaryOp .Mult) (rI IntMulOk fun i j => .int (i * j)) := opI fun _ _ _ _ _ _ _ hc q => mul_int q hc
end
theorem mulOk_pow {i j : Int} {a b : Nat} (ha : i.natAbs < 2 ^ a) (hb : j.natAbs < 2 ^ b) (h0 : 0 < a) (h1 : 0 < b) (h : a + b ≤ 1000000) : IntMulOk i j := (wide_mul ha hb h0 h1 h).ok
theorem tyx_list {K : PySem.W.Frag} {H : Hp} {a : Addr} {xs : List V} (h : SqL K H a xs) : TyX K H (.ref a) (.type "list") := by
  rcases h with (h | ⟨o, h⟩) | h
  · exact .base (.lst h)
  · exact .base (.frz h)
  · obtain ⟨o, _, _, e, c, _⟩ := h
    exact .kList e c
theorem tyx_tup {K : PySem.W.Frag} {H : Hp} {a : Addr} {xs : List V} (h : SqT K H a xs) : TyX K H (.ref a) (.type "tuple") := by
  rcases h with (h | ⟨o, h⟩) | h
  · exact .base (.tup h)
  · exact .fTuple h
  · obtain ⟨o, _, _, e, c, _⟩ := h
    exact .kTuple e c
theorem isi {K : PySem.W.Frag} {H : Hp} {x : V} {t n : String} {b : Bool} {Q : VK} (ty : TyX K H x (.type t)) (h : kitB t n = some b) (q : Q (.bl b) H) : rIsi K [x, .ty n] H Q :=
  ⟨x, .ty n, .type t, .type n, b, rfl, .ty n, ty, kit_ty h, q⟩

/-- a field read, K told -/
theorem pe_fldK {X : Cx} {K : PySem.W.Frag} {o : Expr} {f : Str} {to : TE} {pos : Pos} (hK : X.K = K) (ho : PE X o to) (hb : attributeBase o f X.env (eval o X.env) = eval o X.env) : PE X (.Attribute o f pos) (tFld K to f) := by
  subst hK
  exact pe_fld ho hb
/-- len of a list, a tuple -/
def rLen (K : PySem.W.Frag) : List V → Hp → VK → Prop := fun xs H Q => ∃ p ys, xs = [.ref p] ∧ (SqL K H p ys ∨ SqT K H p ys) ∧ Q (.int (ys.length : Nat)) H
theorem call_lenK {X : Cx} : CallR X (.builtin "len") (rLen X.K) := call_len_seq
/-! ### == of data -/
theorem shp_all {n : Nat} : ∀ {ds : List PyData}, (∀ d ∈ ds, PyData.canLay0 d = true ∧ PyData.depth d ≤ n) → PyData.canLayAll0 ds = true ∧ PyData.depthAll ds ≤ n
  | [], _ => ⟨by simp [PyData.canLayAll0], by simp [PyData.depthAll]⟩
  | d :: ds, h => by
    obtain ⟨a, b⟩ := shp_all (ds := ds) fun e he => h e (List.mem_cons_of_mem _ he)
    obtain ⟨c, e⟩ := h d List.mem_cons_self
    exact ⟨by simp [PyData.canLayAll0, c, a], by simp only [PyData.depthAll]; omega⟩
theorem shp_list {n : Nat} {ds : List PyData} (h : ∀ d ∈ ds, PyData.canLay0 d = true ∧ PyData.depth d ≤ n) : PyData.canLay0 (.list ds) = true ∧ PyData.depth (.list ds) ≤ n + 1 := by
  obtain ⟨a, b⟩ := shp_all h
  exact ⟨by simp only [PyData.canLay0]; exact a, by simp only [PyData.depth]; omega⟩
theorem shp_tuple {n : Nat} {ds : List PyData} (h : ∀ d ∈ ds, PyData.canLay0 d = true ∧ PyData.depth d ≤ n) : PyData.canLay0 (.tuple ds) = true ∧ PyData.depth (.tuple ds) ≤ n + 1 := by
  obtain ⟨a, b⟩ := shp_all h
  exact ⟨by simp only [PyData.canLay0]; exact a, by simp only [PyData.depth]; omega⟩
theorem shp_int (i : Int) : PyData.canLay0 (.int i) = true ∧ PyData.depth (.int i) ≤ 0 := ⟨by simp [PyData.canLay0], by simp [PyData.depth]⟩
theorem shp_dI (ns : List Int) : PyData.canLay0 (dI ns) = true ∧ PyData.depth (dI ns) ≤ 1 := shp_list fun d hd => by
  obtain ⟨x, _, rfl⟩ := List.mem_map.mp hd
  exact shp_int x
theorem shp_d3 (t : Int × Int × Int) : PyData.canLay0 (d3 t) = true ∧ PyData.depth (d3 t) ≤ 1 := shp_tuple fun d hd => by
  simp only [List.mem_cons, List.not_mem_nil, or_false] at hd
  rcases hd with rfl | rfl | rfl <;> exact shp_int _
theorem shp_dT (ts : List (Int × Int × Int)) : PyData.canLay0 (dT ts) = true ∧ PyData.depth (dT ts) ≤ 2 := shp_list fun d hd => by
  obtain ⟨x, _, rfl⟩ := List.mem_map.mp hd
  exact shp_d3 x
theorem shp_ok {d : PyData} {n : Nat} (h : PyData.canLay0 d = true ∧ PyData.depth d ≤ n) (hn : n ≤ 64 := by decide) : SeqAt.shaped d = true := by
  unfold SeqAt.shaped
  rw [h.1, decide_eq_true (by omega)]
  rfl
theorem shaped_dI (ns : List Int) : SeqAt.shaped (dI ns) = true := shp_ok (shp_dI ns)
theorem shaped_dT (ts : List (Int × Int × Int)) : SeqAt.shaped (dT ts) = true := shp_ok (shp_dT ts)
theorem eqvAll_dI : ∀ xs ys : List Int, PyData.eqvAll (xs.map .int) (ys.map .int) = decide (xs = ys)
  | [], [] => by simp [PyData.eqvAll]
  | [], _ :: _ => by simp [PyData.eqvAll]
  | _ :: _, [] => by simp [PyData.eqvAll]
  | a :: r, b :: t => by
    simp only [List.map_cons, PyData.eqvAll, PyData.eqv, eqvAll_dI r t]
    by_cases h : a = b <;> by_cases h' : r = t <;> simp [h, h']
theorem eqv_dI (xs ys : List Int) : PyData.eqv (dI xs) (dI ys) = decide (xs = ys) := by
  unfold dI
  simp only [PyData.eqv]
  exact eqvAll_dI xs ys
theorem eqv_d3 (a b : Int × Int × Int) : PyData.eqv (d3 a) (d3 b) = decide (a = b) := by
  obtain ⟨x, y, z⟩ := a
  obtain ⟨x', y', z'⟩ := b
  unfold d3
  simp only [PyData.eqv, PyData.eqvAll]
  by_cases h : x = x' <;> by_cases h' : y = y' <;> by_cases h'' : z = z' <;> simp [h, h', h'']
theorem eqvAll_dT : ∀ xs ys : List (Int × Int × Int), PyData.eqvAll (xs.map d3) (ys.map d3) = decide (xs = ys)
  | [], [] => by simp [PyData.eqvAll]
  | [], _ :: _ => by simp [PyData.eqvAll]
  | _ :: _, [] => by simp [PyData.eqvAll]
  | a :: r, b :: t => by
    simp only [List.map_cons, PyData.eqvAll, eqv_d3, eqvAll_dT r t]
    by_cases h : a = b <;> by_cases h' : r = t <;> simp [h, h']
theorem eqv_dT (xs ys : List (Int × Int × Int)) : PyData.eqv (dT xs) (dT ys) = decide (xs = ys) := by
  unfold dT
  simp only [PyData.eqv]
  exact eqvAll_dT xs ys
theorem eqv_self {d : PyData} {n : Nat} (h : PyData.canLay0 d = true ∧ PyData.depth d ≤ n) : PyData.eqv d d = true := SeqAt.eqv_refl d h.1
end Dr

namespace DM
abbrev Deed := Int × Int × Int
/-! the mirror of rows.py -/
def isDeed (n : Int) (d : Deed) : Bool := (decide (0 ≤ d.1) && (decide (d.1 < d.2.1) && decide (d.2.1 ≤ n))) && !decide (d.2.2 = 0)
def Okd (n : Nat) (d : Deed) : Prop := 0 ≤ d.1 ∧ d.1 < d.2.1 ∧ d.2.1 ≤ n ∧ d.2.2 ≠ 0
theorem isDeed_iff {n : Nat} {d : Deed} : isDeed n d = true ↔ Okd n d := by
  unfold isDeed Okd
  simp only [Bool.and_eq_true, decide_eq_true_eq, Bool.not_eq_true', decide_eq_false_iff_not]
  constructor
  · rintro ⟨⟨a, b, c⟩, e⟩; exact ⟨a, b, c, e⟩
  · rintro ⟨a, b, c, e⟩; exact ⟨⟨a, b, c⟩, e⟩
def bumpD (c : List Int) (d : Deed) : List Int :=
  let c1 := c.set d.1.toNat (c.getD d.1.toNat 0 + d.2.2)
  c1.set d.2.1.toNat (c1.getD d.2.1.toNat 0 - d.2.2)
def changes (n : Nat) (ds : List Deed) : List Int := ds.foldl bumpD (List.replicate (n + 1) 0)
def runBy (size : Int) : Int → List Int → List Int → List Int
  | far, f :: r, c :: cs => (f + (far + c)) % size :: runBy size (far + c) r cs
  | _, _, _ => []
def turnedBy (size : Int) (row : List Int) (ds : List Deed) : List Int := runBy size 0 row (changes row.length ds)
def stepsOf (ds : List Deed) : Int := (ds.map fun d => (if d.2.2 < 0 then -d.2.2 else d.2.2)).sum
/-! what it means -/
def coverAt (ds : List Deed) (j : Int) : Int := (ds.map fun d => if d.1 ≤ j ∧ j < d.2.1 then d.2.2 else 0).sum
def diffAt (ds : List Deed) (p : Int) : Int := (ds.map fun d => (if d.1 = p then d.2.2 else 0) - (if d.2.1 = p then d.2.2 else 0)).sum
theorem getD_set (xs : List Int) (i j : Nat) (v : Int) : (xs.set i v).getD j 0 = if i = j ∧ j < xs.length then v else xs.getD j 0 := by
  simp only [List.getD_eq_getElem?_getD, List.getElem?_set]
  by_cases h : i = j
  · subst h
    by_cases h2 : i < xs.length
    · simp [h2]
    · simp [h2]
  · simp [h]
theorem bumpD_len (c : List Int) (d : Deed) : (bumpD c d).length = c.length := by simp [bumpD]
theorem bumpD_get {c : List Int} {d : Deed} {n : Nat} (hd : Okd n d) (hc : c.length = n + 1) (p : Nat) (hp : p ≤ n) :
    (bumpD c d).getD p 0 = c.getD p 0 + ((if d.1 = p then d.2.2 else 0) - (if d.2.1 = p then d.2.2 else 0)) := by
  obtain ⟨h1, h2, h3, h4⟩ := hd
  unfold bumpD
  simp only [getD_set, List.length_set]
  have e1 : (d.1.toNat = p) ↔ (d.1 = p) := by omega
  have e2 : (d.2.1.toNat = p) ↔ (d.2.1 = p) := by omega
  have e3 : ¬ (d.1.toNat = d.2.1.toNat) := by omega
  have l : p < c.length := by omega
  simp only [e1, e2, l, and_true, e3, false_and, if_false]
  by_cases g1 : d.1 = p <;> by_cases g2 : d.2.1 = p <;> simp only [g1, g2, if_true, if_false]
  · exfalso; omega
  · rw [Int.toNat_natCast]; omega
  · rw [Int.toNat_natCast]; omega
  · omega
theorem changes_len (n : Nat) (ds : List Deed) : ∀ c : List Int, (ds.foldl bumpD c).length = c.length := by
  induction ds with
  | nil => intro c; rfl
  | cons d ds ih => intro c; rw [List.foldl_cons, ih, bumpD_len]
theorem changes_get {n : Nat} (p : Nat) (hp : p ≤ n) : ∀ (ds : List Deed) (c : List Int), (∀ d ∈ ds, Okd n d) → c.length = n + 1 →
    (ds.foldl bumpD c).getD p 0 = c.getD p 0 + diffAt ds p := by
  intro ds
  induction ds with
  | nil => intro c _ _; simp [diffAt]
  | cons d ds ih =>
    intro c hv hc
    rw [List.foldl_cons, ih (bumpD c d) (fun e he => hv e (List.mem_cons_of_mem _ he)) (by rw [bumpD_len, hc]), bumpD_get (hv d List.mem_cons_self) hc p hp]
    simp only [diffAt, List.map_cons, List.sum_cons]
    omega
theorem cover_zero {ds : List Deed} (n : Nat) (hv : ∀ d ∈ ds, Okd n d) : coverAt ds 0 = diffAt ds 0 := by
  induction ds with
  | nil => rfl
  | cons d ds ih =>
    have h := ih fun e he => hv e (List.mem_cons_of_mem _ he)
    obtain ⟨h1, h2, h3, h4⟩ := hv d List.mem_cons_self
    simp only [coverAt, diffAt, List.map_cons, List.sum_cons] at h ⊢
    rw [h]
    by_cases g : d.1 = 0
    · rw [if_pos (by omega), if_pos g, if_neg (by omega)]; omega
    · rw [if_neg (by omega), if_neg g, if_neg (by omega)]; omega
theorem cover_succ {ds : List Deed} (n : Nat) (hv : ∀ d ∈ ds, Okd n d) (j : Int) : coverAt ds (j + 1) = coverAt ds j + diffAt ds (j + 1) := by
  induction ds with
  | nil => rfl
  | cons d ds ih =>
    have h := ih fun e he => hv e (List.mem_cons_of_mem _ he)
    obtain ⟨h1, h2, h3, h4⟩ := hv d List.mem_cons_self
    simp only [coverAt, diffAt, List.map_cons, List.sum_cons] at h ⊢
    rw [h]
    split <;> split <;> split <;> split <;> omega
theorem runBy_get (size : Int) : ∀ (row cs : List Int) (far : Int) (g : Nat → Int), row.length ≤ cs.length →
    (∀ j, j < row.length → g j = (if j = 0 then far else g (j - 1)) + cs.getD j 0) →
    ∀ j : Nat, (runBy size far row cs)[j]? = row[j]?.map fun x => (x + g j) % size := by
  intro row
  induction row with
  | nil => intro cs far g _ _ j; cases cs <;> simp [runBy]
  | cons f r ih =>
    intro cs far g hl hg j
    cases cs with
    | nil => simp at hl
    | cons c cs =>
      have g0 : g 0 = far + c := by
        have := hg 0 (by simp)
        simpa using this
      unfold runBy
      cases j with
      | zero => simp [g0]
      | succ j =>
        simp only [List.getElem?_cons_succ]
        have l2 : r.length ≤ cs.length := by simpa using hl
        refine ih cs (far + c) (fun k => g (k + 1)) l2 (fun k hk => ?_) j
        have := hg (k + 1) (by simp; omega)
        simp only [Nat.add_one_ne_zero, if_false, Nat.add_sub_cancel, List.getD_cons_succ] at this
        rw [this]
        cases k with
        | zero => simp [g0]
        | succ k => simp
theorem runBy_len (size : Int) : ∀ (row cs : List Int) (far : Int), row.length ≤ cs.length → (runBy size far row cs).length = row.length := by
  intro row
  induction row with
  | nil => intro cs far _; cases cs <;> rfl
  | cons f r ih =>
    intro cs far h
    cases cs with
    | nil => simp at h
    | cons c cs => simp [runBy, ih cs (far + c) (by simpa using h)]
theorem changes_length (n : Nat) (ds : List Deed) : (changes n ds).length = n + 1 := by
  unfold changes; rw [changes_len n]; simp
theorem turnedBy_len (size : Int) (row : List Int) (ds : List Deed) : (turnedBy size row ds).length = row.length :=
  runBy_len size row _ 0 (by rw [changes_length]; omega)
theorem turnedBy_get {size : Int} {row : List Int} {ds : List Deed} (hv : ∀ d ∈ ds, Okd row.length d) (j : Nat) :
    (turnedBy size row ds)[j]? = row[j]?.map fun x => (x + coverAt ds j) % size := by
  unfold turnedBy
  refine runBy_get size row _ 0 (fun j => coverAt ds j) (by rw [changes_length]; omega) (fun j hj => ?_) j
  have hc : (changes row.length ds).getD j 0 = diffAt ds j := by
    unfold changes
    rw [changes_get j (by omega) ds _ hv (by simp)]
    simp [List.getD_eq_getElem?_getD, List.getElem?_replicate]
    split <;> simp
  rw [hc]
  cases j with
  | zero => simpa using cover_zero _ hv
  | succ j =>
    have := cover_succ _ hv (j : Int)
    simpa using this
/-! the mirror of the law's own turning -/
def turnRange (size s : Int) (xs : List Int) (a : Nat) : Nat → List Int
  | 0 => xs
  | k + 1 => (turnRange size s xs a k).set (a + k) (((turnRange size s xs a k).getD (a + k) 0 + s) % size)
def turnOne (size : Int) (xs : List Int) (d : Deed) : List Int := turnRange size d.2.2 xs d.1.toNat (d.2.1 - d.1).toNat
def lawGo (size : Int) (n : Int) : List Int → List Deed → Option (List Int)
  | xs, [] => some xs
  | xs, d :: ds => if isDeed n d then lawGo size n (turnOne size xs d) ds else none
def lawTurned (size : Int) (row : List Int) (ds : List Deed) : Option (List Int) := lawGo size row.length row ds
theorem turnRange_len (size s : Int) (xs : List Int) (a : Nat) : ∀ k, (turnRange size s xs a k).length = xs.length
  | 0 => rfl
  | k + 1 => by simp [turnRange, turnRange_len size s xs a k]
theorem turnRange_get (size s : Int) (xs : List Int) (a : Nat) (j : Nat) : ∀ k, (turnRange size s xs a k)[j]? = xs[j]?.map fun x => if a ≤ j ∧ j < a + k then (x + s) % size else x
  | 0 => by
    simp only [turnRange, Nat.add_zero]
    cases xs[j]? with
    | none => rfl
    | some x => rw [Option.map_some, if_neg (by omega)]
  | k + 1 => by
    have ih := turnRange_get size s xs a j k
    have il := turnRange_len size s xs a k
    simp only [turnRange, List.getElem?_set, il]
    by_cases h : a + k = j
    · rw [if_pos h]
      have e : (turnRange size s xs a k).getD (a + k) 0 = ((turnRange size s xs a k)[j]?).getD 0 := by
        rw [List.getD_eq_getElem?_getD, h]
      rw [e, ih]
      by_cases hj : j < xs.length
      · simp only [List.getElem?_eq_getElem hj, Option.map_some, Option.getD_some]
        rw [if_neg (by omega : ¬ (a ≤ j ∧ j < a + k)), if_pos (by omega : a ≤ j ∧ j < a + (k + 1)), if_pos (by omega)]
      · rw [if_neg (by omega)]
        simp [List.getElem?_eq_none (Nat.le_of_not_lt hj)]
    · rw [if_neg h, ih]
      cases xs[j]? with
      | none => rfl
      | some x =>
        simp only [Option.map_some, Option.some.injEq]
        by_cases g : a ≤ j ∧ j < a + k
        · rw [if_pos g, if_pos (by omega)]
        · rw [if_neg g, if_neg (by omega)]
theorem turnOne_get {n : Nat} {size : Int} {xs : List Int} {d : Deed} (hd : Okd n d) (j : Nat) :
    (turnOne size xs d)[j]? = xs[j]?.map fun x => if d.1 ≤ j ∧ j < d.2.1 then (x + d.2.2) % size else x := by
  obtain ⟨h1, h2, h3, h4⟩ := hd
  unfold turnOne
  rw [turnRange_get]
  have e : (d.1.toNat ≤ j ∧ j < d.1.toNat + (d.2.1 - d.1).toNat) ↔ (d.1 ≤ j ∧ (j : Int) < d.2.1) := by omega
  simp only [e]
theorem turnOne_len {size : Int} {xs : List Int} {d : Deed} : (turnOne size xs d).length = xs.length := turnRange_len ..
def InR (size : Int) (row : List Int) : Prop := ∀ x ∈ row, 0 ≤ x ∧ x < size
theorem lawGo_get {size : Int} {n : Nat} (row : List Int) (hr : InR size row) : ∀ (ds : List Deed) (done : List Deed) (xs : List Int), (∀ d ∈ ds, Okd n d) →
    (∀ j : Nat, xs[j]? = row[j]?.map fun x => (x + coverAt done j) % size) → ∃ ys, lawGo size n xs ds = some ys ∧ ∀ j : Nat, ys[j]? = row[j]?.map fun x => (x + coverAt (done ++ ds) j) % size := by
  intro ds
  induction ds with
  | nil => intro done xs _ h; exact ⟨xs, rfl, by simpa using h⟩
  | cons d ds ih =>
    intro done xs hv h
    have hd := hv d List.mem_cons_self
    obtain ⟨ys, e1, e2⟩ := ih (done ++ [d]) (turnOne size xs d) (fun e he => hv e (List.mem_cons_of_mem _ he)) (fun j => by
      rw [turnOne_get hd, h j]
      cases row[j]? with
      | none => rfl
      | some x =>
        simp only [Option.map_some, Option.some.injEq, coverAt, List.map_append, List.sum_append, List.map_cons, List.sum_cons, List.map_nil, List.sum_nil]
        by_cases g : d.1 ≤ (j : Int) ∧ (j : Int) < d.2.1
        · rw [if_pos g, if_pos g, Int.emod_add_emod]; congr 1; omega
        · rw [if_neg g, if_neg g]; congr 1; omega)
    refine ⟨ys, ?_, ?_⟩
    · unfold lawGo
      rw [if_pos (isDeed_iff.mpr hd)]
      exact e1
    · simpa using e2
theorem lawTurned_ok {size : Int} {row : List Int} {ds : List Deed} (hr : InR size row) (hv : ∀ d ∈ ds, Okd row.length d) : lawTurned size row ds = some (turnedBy size row ds) := by
  obtain ⟨ys, e1, e2⟩ := lawGo_get (size := size) (n := row.length) row hr ds [] row hv (fun j => by
    cases h : row[j]? with
    | none => rfl
    | some x =>
      obtain ⟨h1, h2⟩ := hr x (List.mem_of_getElem? h)
      simp only [Option.map_some, Option.some.injEq, coverAt, List.map_nil, List.sum_nil, Int.add_zero]
      rw [Int.emod_eq_of_lt h1 h2])
  unfold lawTurned
  rw [e1]
  congr 1
  refine List.ext_getElem? fun j => ?_
  rw [e2 j, turnedBy_get hv]
  simp
theorem lawGo_none {size : Int} {n : Int} : ∀ (ds : List Deed) (xs : List Int), (∃ d ∈ ds, isDeed n d = false) → lawGo size n xs ds = none := by
  intro ds
  induction ds with
  | nil => intro xs h; obtain ⟨d, h, _⟩ := h; cases h
  | cons d ds ih =>
    intro xs h
    unfold lawGo
    by_cases g : isDeed n d = true
    · rw [if_pos g]
      refine ih _ ?_
      obtain ⟨e, he, hf⟩ := h
      rcases List.mem_cons.mp he with z | z
      · subst z; rw [g] at hf; cases hf
      · exact ⟨e, z, hf⟩
    · rw [if_neg g]
theorem turnedBy_inR {size : Int} (hs : 0 < size) {row : List Int} {ds : List Deed} : InR size (turnedBy size row ds) := by
  unfold turnedBy
  have : ∀ (row cs : List Int) (far : Int), InR size (runBy size far row cs) := by
    intro row
    induction row with
    | nil => intro cs far x hx; cases cs <;> simp [runBy] at hx
    | cons f r ih =>
      intro cs far x hx
      cases cs with
      | nil => simp [runBy] at hx
      | cons c cs =>
        unfold runBy at hx
        rcases List.mem_cons.mp hx with z | z
        · subst z; exact ⟨Int.emod_nonneg _ (by omega), Int.emod_lt_of_pos _ hs⟩
        · exact ih _ _ x z
  exact this _ _ _
/-! deeds back again, and one behind another -/
def negD (ds : List Deed) : List Deed := ds.map fun d => (d.1, d.2.1, -d.2.2)
theorem cover_neg (ds : List Deed) (j : Int) : coverAt (negD ds) j = - coverAt ds j := by
  induction ds with
  | nil => rfl
  | cons d ds ih =>
    simp only [coverAt, negD, List.map_cons, List.sum_cons, List.map_map] at ih ⊢
    rw [ih]
    split <;> omega
theorem neg_ok {n : Nat} {ds : List Deed} (hv : ∀ d ∈ ds, Okd n d) : ∀ d ∈ negD ds, Okd n d := by
  intro d hd
  obtain ⟨e, he, rfl⟩ := List.mem_map.mp hd
  obtain ⟨h1, h2, h3, h4⟩ := hv e he
  exact ⟨h1, h2, h3, by show -e.2.2 ≠ 0; omega⟩
theorem turned_back {size : Int} {row : List Int} {ds : List Deed} (hr : InR size row) (hv : ∀ d ∈ ds, Okd row.length d) : turnedBy size (turnedBy size row ds) (negD ds) = row := by
  refine List.ext_getElem? fun j => ?_
  rw [turnedBy_get (by rw [turnedBy_len]; exact neg_ok hv), turnedBy_get hv]
  cases h : row[j]? with
  | none => rfl
  | some x =>
    obtain ⟨h1, h2⟩ := hr x (List.mem_of_getElem? h)
    simp only [Option.map_some, Option.some.injEq]
    rw [cover_neg, Int.emod_add_emod, show x + coverAt ds ↑j + -coverAt ds ↑j = x by omega, Int.emod_eq_of_lt h1 h2]
theorem cover_append (a b : List Deed) (j : Int) : coverAt (a ++ b) j = coverAt a j + coverAt b j := by
  simp [coverAt]
theorem turned_two {size : Int} {row : List Int} {a b : List Deed} (ha : ∀ d ∈ a, Okd row.length d) (hb : ∀ d ∈ b, Okd row.length d) : turnedBy size (turnedBy size row b) a = turnedBy size row (a ++ b) := by
  refine List.ext_getElem? fun j => ?_
  rw [turnedBy_get (by rw [turnedBy_len]; exact ha), turnedBy_get hb, turnedBy_get (fun d hd => (List.mem_append.mp hd).elim (ha d) (hb d))]
  cases row[j]? with
  | none => rfl
  | some x =>
    simp only [Option.map_some, Option.some.injEq]
    rw [cover_append, Int.emod_add_emod]
    congr 1
    omega
end DM

namespace DM
/-! the laws' own sizes and rows -/
def lawSizes (m : Int) : List Int := [2, 3 + m / 5 % 5, 10, 10 ^ 20 + m % 1000, 60]
def lawSize (ns : List Int) : Int := (lawSizes ns.sum).getD (ns.sum / 11 % 5).toNat 0
theorem lawSize_ok (ns : List Int) : 2 ≤ lawSize ns ∧ lawSize ns < 2 ^ 107 := by
  unfold lawSize lawSizes
  have h : (ns.sum / 11 % 5).toNat < 5 := by omega
  generalize ns.sum = m at h
  generalize hk : (m / 11 % 5).toNat = k at h
  have h5 : 0 ≤ m / 5 % 5 ∧ m / 5 % 5 < 5 := by omega
  have h10 : 0 ≤ m % 1000 ∧ m % 1000 < 1000 := by omega
  rcases k with _ | _ | _ | _ | _ | k
  · show (2 : Int) ≤ 2 ∧ (2 : Int) < 2 ^ 107; omega
  · show (2 : Int) ≤ 3 + m / 5 % 5 ∧ 3 + m / 5 % 5 < 2 ^ 107; omega
  · show (2 : Int) ≤ 10 ∧ (10 : Int) < 2 ^ 107; omega
  · show (2 : Int) ≤ 10 ^ 20 + m % 1000 ∧ 10 ^ 20 + m % 1000 < 2 ^ 107; omega
  · show (2 : Int) ≤ 60 ∧ (60 : Int) < 2 ^ 107; omega
  · omega
def divs (size : Int) : List Int := [1, size, 7, size * 5]
def divOf (size by_ : Int) : Int := (divs size).getD (by_ % 4).toNat 0
theorem divOf_ok {size by_ : Int} (h : 2 ≤ size ∧ size < 2 ^ 107) : 0 < divOf size by_ ∧ divOf size by_ < 2 ^ 110 := by
  unfold divOf divs
  have h4 : (by_ % 4).toNat < 4 := by omega
  generalize (by_ % 4).toNat = k at h4
  rcases k with _ | _ | _ | _ | k
  · show (0 : Int) < 1 ∧ (1 : Int) < 2 ^ 110; omega
  · show (0 : Int) < size ∧ size < 2 ^ 110; omega
  · show (0 : Int) < 7 ∧ (7 : Int) < 2 ^ 110; omega
  · show (0 : Int) < size * 5 ∧ size * 5 < 2 ^ 110; omega
  · omega
def rowFig (size by_ m last cell : Int) : Int :=
  if m / 7 % 3 = 1 then (last + cell / divOf size by_ % size % 3 - 1) % size else cell / divOf size by_ % size
def rowStep (size by_ m : Int) (st : List Int × Int) (cell : Int) : List Int × Int :=
  (st.1 ++ [rowFig size by_ m st.2 cell], rowFig size by_ m st.2 cell)
def rowBase (ns : List Int) (size by_ : Int) : List Int × Int := ns.foldl (rowStep size by_ ns.sum) ([], 0)
def rowLong (xs : List Int) (m size by_ : Int) (n : Nat) : List Int :=
  (List.range n).map fun (a : Nat) => (xs.getD ((a : Int) * (by_ + 1) % xs.length).toNat 0 + (a : Int) / xs.length * by_) % size
def lawRow (ns : List Int) (size by_ : Int) : List Int :=
  if ns.sum / 21 % 9 = 4 ∧ (rowBase ns size by_).1 ≠ [] then rowLong (rowBase ns size by_).1 ns.sum size by_ (70 + ns.sum % 30).toNat else (rowBase ns size by_).1
theorem rowFig_ok {size by_ m last cell : Int} (h : 2 ≤ size) : 0 ≤ rowFig size by_ m last cell ∧ rowFig size by_ m last cell < size := by
  unfold rowFig
  split
  · exact ⟨Int.emod_nonneg _ (by omega), Int.emod_lt_of_pos _ (by omega)⟩
  · exact ⟨Int.emod_nonneg _ (by omega), Int.emod_lt_of_pos _ (by omega)⟩
theorem fold_row_len (size by_ m : Int) : ∀ (ns : List Int) (st : List Int × Int), (ns.foldl (rowStep size by_ m) st).1.length = st.1.length + ns.length
  | [], st => by simp
  | n :: ns, st => by
    rw [List.foldl_cons, fold_row_len size by_ m ns]
    simp [rowStep]
    omega
theorem fold_row_in {size by_ m : Int} (h : 2 ≤ size) : ∀ (ns : List Int) (st : List Int × Int), InR size st.1 → InR size (ns.foldl (rowStep size by_ m) st).1
  | [], st, hs => hs
  | n :: ns, st, hs => by
    rw [List.foldl_cons]
    refine fold_row_in h ns _ fun x hx => ?_
    rcases List.mem_append.mp hx with z | z
    · exact hs x z
    · rcases List.mem_singleton.mp z with rfl
      exact rowFig_ok h
theorem rowBase_len (ns : List Int) (size by_ : Int) : (rowBase ns size by_).1.length = ns.length := by
  unfold rowBase; rw [fold_row_len]; simp
theorem rowBase_in {ns : List Int} {size by_ : Int} (h : 2 ≤ size) : InR size (rowBase ns size by_).1 := fold_row_in h ns _ fun _ h => nomatch h
theorem rowLong_in {xs : List Int} {m size by_ : Int} {n : Nat} (h : 2 ≤ size) : InR size (rowLong xs m size by_ n) := fun x hx => by
  unfold rowLong at hx
  obtain ⟨a, _, rfl⟩ := List.mem_map.mp hx
  exact ⟨Int.emod_nonneg _ (by omega), Int.emod_lt_of_pos _ (by omega)⟩
theorem rowLong_len {xs : List Int} {m size by_ : Int} {n : Nat} : (rowLong xs m size by_ n).length = n := by simp [rowLong]
theorem lawRow_in {ns : List Int} {size by_ : Int} (h : 2 ≤ size) : InR size (lawRow ns size by_) := by
  unfold lawRow
  split
  · exact rowLong_in h
  · exact rowBase_in h
theorem lawRow_len1 {ns : List Int} {size by_ : Int} (h : ns.length ≤ 63) : (lawRow ns size by_).length ≤ 99 := by
  unfold lawRow
  split
  · rw [rowLong_len]; omega
  · rw [rowBase_len]; omega
theorem lawRow_len2 (ns : List Int) (size b c : Int) : (lawRow ns size b).length = (lawRow ns size c).length := by
  have e : ∀ b, (rowBase ns size b).1 ≠ [] ↔ ns ≠ [] := fun b => by
    have := rowBase_len ns size b
    constructor
    · intro h z; subst z; exact h (List.eq_nil_of_length_eq_zero this)
    · intro h z; rw [z] at this; exact h (List.eq_nil_of_length_eq_zero this.symm)
  unfold lawRow
  simp only [e]
  split
  · rw [rowLong_len, rowLong_len]
  · rw [rowBase_len, rowBase_len]

/-! k01: the deeds by the cells -/
def deedSteps (c : Int) (k : Nat) : List Int := [1 + c / 5 % 9, -1 - c / 5 % 9, c, -1 - (c + k) * (c + k)]
def deedOf (many : Int) (k : Nat) (c : Int) : Deed := (c / 3 % many, c / 3 % many + 1 + c / 11 % (many - c / 3 % many), (deedSteps c k).getD (c % 4).toNat 0)
def deedsFrom (many : Int) : Nat → List Int → List Deed
  | _, [] => []
  | k, c :: cs => if (deedOf many k c).2.2 = 0 then deedsFrom many (k + 1) cs else deedOf many k c :: deedsFrom many (k + 1) cs
def lawDeeds (ns : List Int) (many : Int) : List Deed := if 0 < many then deedsFrom many 0 ns else []
theorem deedsFrom_cons (many : Int) (k : Nat) (c : Int) (cs : List Int) : deedsFrom many k (c :: cs) = if (deedOf many k c).2.2 = 0 then deedsFrom many (k + 1) cs else deedOf many k c :: deedsFrom many (k + 1) cs := rfl
theorem deedsFrom_ok {n : Nat} (hn : 0 < n) : ∀ (ns : List Int) (k : Nat), ∀ d ∈ deedsFrom n k ns, Okd n d := by
  intro ns
  induction ns with
  | nil => intro k d h; cases h
  | cons c cs ih =>
    intro k d h
    unfold deedsFrom at h
    split at h
    · exact ih _ d h
    · rename_i h4
      rcases List.mem_cons.mp h with e | h
      · subst e
        have a1 : 0 ≤ c / 3 % (n : Int) := Int.emod_nonneg _ (by omega)
        have a2 : c / 3 % (n : Int) < n := Int.emod_lt_of_pos _ (by omega)
        have b1 : 0 ≤ c / 11 % ((n : Int) - c / 3 % (n : Int)) := Int.emod_nonneg _ (by omega)
        have b2 : c / 11 % ((n : Int) - c / 3 % (n : Int)) < (n : Int) - c / 3 % (n : Int) := Int.emod_lt_of_pos _ (by omega)
        exact ⟨a1, by show c / 3 % (n : Int) < c / 3 % (n : Int) + 1 + c / 11 % ((n : Int) - c / 3 % (n : Int)); omega, by show c / 3 % (n : Int) + 1 + _ ≤ _; omega, h4⟩
      · exact ih _ d h
theorem lawDeeds_ok {n : Nat} {ns : List Int} : ∀ d ∈ lawDeeds ns n, Okd n d := by
  intro d h
  unfold lawDeeds at h
  split at h
  · exact deedsFrom_ok (by omega) ns 0 d h
  · cases h
theorem deedsFrom_len (many : Int) : ∀ (ns : List Int) (k : Nat), (deedsFrom many k ns).length ≤ ns.length := by
  intro ns
  induction ns with
  | nil => intro k; exact Nat.le_refl _
  | cons c cs ih =>
    intro k
    unfold deedsFrom
    split
    · have := ih (k + 1); simp; omega
    · have := ih (k + 1); simp; omega
theorem lawDeeds_len (ns : List Int) (many : Int) : (lawDeeds ns many).length ≤ ns.length := by
  unfold lawDeeds
  split
  · exact deedsFrom_len _ _ _
  · simp
end DM

namespace DM
/-! ### sums -/
theorem perm_sum {l m : List Int} (h : l.Perm m) : l.sum = m.sum := by
  induction h with
  | nil => rfl
  | cons x _ ih => simp [ih]
  | swap x y l => simp only [List.sum_cons]; omega
  | trans _ _ a b => exact a.trans b
theorem sum_append (a b : List Int) : (a ++ b).sum = a.sum + b.sum := List.sum_append
theorem sum_map_add {α : Type} (f g : α → Int) : ∀ l : List α, (l.map fun x => f x + g x).sum = (l.map f).sum + (l.map g).sum
  | [] => rfl
  | a :: l => by simp only [List.map_cons, List.sum_cons, sum_map_add f g l]; omega
theorem sum_map_mul {α : Type} (c : Int) (f : α → Int) : ∀ l : List α, (l.map fun x => c * f x).sum = c * (l.map f).sum
  | [] => by simp
  | a :: l => by simp only [List.map_cons, List.sum_cons, sum_map_mul c f l, Int.mul_add]
theorem sum_map_le {α : Type} {f g : α → Int} : ∀ {l : List α}, (∀ x ∈ l, f x ≤ g x) → (l.map f).sum ≤ (l.map g).sum
  | [], _ => Int.le_refl _
  | a :: l, h => by
    have h1 := h a List.mem_cons_self
    have h2 := sum_map_le (l := l) fun x hx => h x (List.mem_cons_of_mem _ hx)
    simp only [List.map_cons, List.sum_cons]
    omega
theorem sum_map_const {α : Type} (c : Int) : ∀ l : List α, (l.map fun _ => c).sum = l.length * c
  | [] => by simp
  | a :: l => by
    simp only [List.map_cons, List.sum_cons, sum_map_const c l, List.length_cons]
    rw [Int.natCast_add, Int.add_mul]; omega
theorem sum_map_congr {α : Type} {f g : α → Int} {l : List α} (h : ∀ x ∈ l, f x = g x) : (l.map f).sum = (l.map g).sum := by rw [List.map_congr_left h]
/-! ### a sort -/
section
variable {α : Type} (le : α → α → Bool)
def ins (x : α) : List α → List α
  | [] => [x]
  | y :: ys => if le x y then x :: y :: ys else y :: ins x ys
def isort : List α → List α
  | [] => []
  | x :: xs => ins le x (isort xs)
theorem ins_perm (x : α) : ∀ l : List α, (ins le x l).Perm (x :: l)
  | [] => .refl _
  | y :: ys => by
    unfold ins
    split
    · exact .refl _
    · exact (List.Perm.cons y (ins_perm x ys)).trans (List.Perm.swap x y ys)
theorem isort_perm : ∀ l : List α, (isort le l).Perm l
  | [] => .refl _
  | x :: xs => (ins_perm le x _).trans (List.Perm.cons x (isort_perm xs))
theorem ins_sorted (tot : ∀ a b, le a b = true ∨ le b a = true) (tr : ∀ a b c, le a b = true → le b c = true → le a c = true) (x : α) : ∀ l : List α, l.Pairwise (fun a b => le a b = true) → (ins le x l).Pairwise (fun a b => le a b = true)
  | [], _ => List.pairwise_singleton _ _
  | y :: ys, h => by
    unfold ins
    obtain ⟨h1, h2⟩ := List.pairwise_cons.mp h
    split
    · rename_i g
      refine List.pairwise_cons.mpr ⟨fun z hz => ?_, h⟩
      rcases List.mem_cons.mp hz with e | hz
      · subst e; exact g
      · exact tr _ _ _ g (h1 z hz)
    · rename_i g
      refine List.pairwise_cons.mpr ⟨fun z hz => ?_, ins_sorted tot tr x ys h2⟩
      rcases List.mem_cons.mp ((ins_perm le x ys).mem_iff.mp hz) with e | hz
      · subst e
        rcases tot z y with q | q
        · exact absurd q g
        · exact q
      · exact h1 z hz
theorem isort_sorted (tot : ∀ a b, le a b = true ∨ le b a = true) (tr : ∀ a b c, le a b = true → le b c = true → le a c = true) : ∀ l : List α, (isort le l).Pairwise (fun a b => le a b = true)
  | [] => .nil
  | x :: xs => ins_sorted le tot tr x _ (isort_sorted tot tr xs)
/-- there is just one -/
theorem isort_uniq (tot : ∀ a b, le a b = true ∨ le b a = true) (tr : ∀ a b c, le a b = true → le b c = true → le a c = true) (anti : ∀ a b, le a b = true → le b a = true → a = b) {l m : List α}
    (hp : m.Perm l) (hs : m.Pairwise (fun a b => le a b = true)) : m = isort le l :=
  (hp.trans (isort_perm le l).symm).eq_of_pairwise (fun a b _ _ h1 h2 => anti a b h1 h2) hs (isort_sorted le tot tr l)
end
def leP (a b : Int × Int) : Bool := decide (a.1 < b.1 ∨ (a.1 = b.1 ∧ a.2 ≤ b.2))
def leT (a b : Deed) : Bool := decide (a.1 < b.1 ∨ (a.1 = b.1 ∧ (a.2.1 < b.2.1 ∨ (a.2.1 = b.2.1 ∧ a.2.2 ≤ b.2.2))))
theorem leP_tot (a b : Int × Int) : leP a b = true ∨ leP b a = true := by
  unfold leP; simp only [decide_eq_true_eq]; omega
theorem leP_tr (a b c : Int × Int) (h1 : leP a b = true) (h2 : leP b c = true) : leP a c = true := by
  unfold leP at *; simp only [decide_eq_true_eq] at *; omega
theorem leP_fst {a b : Int × Int} (h : leP a b = true) : a.1 ≤ b.1 := by
  unfold leP at h; simp only [decide_eq_true_eq] at h; omega
theorem leP_anti (a b : Int × Int) (h1 : leP a b = true) (h2 : leP b a = true) : a = b := by
  unfold leP at *; simp only [decide_eq_true_eq] at *
  exact Prod.ext (by omega) (by omega)
theorem leT_tot (a b : Deed) : leT a b = true ∨ leT b a = true := by
  unfold leT; simp only [decide_eq_true_eq]; omega
theorem leT_tr (a b c : Deed) (h1 : leT a b = true) (h2 : leT b c = true) : leT a c = true := by
  unfold leT at *; simp only [decide_eq_true_eq] at *; omega
theorem leT_anti (a b : Deed) (h1 : leT a b = true) (h2 : leT b a = true) : a = b := by
  unfold leT at *; simp only [decide_eq_true_eq] at *
  exact Prod.ext (by omega) (Prod.ext (by omega) (by omega))
/-! ### the gaps -/
def gapsGo (size : Int) : Int → List Int → List Int → List Int
  | ahead, m :: ms, t :: ts => (t - m - ahead) % size :: gapsGo size (t - m) ms ts
  | ahead, _, _ => [(-ahead) % size]
def gapsOf (size : Int) (one other : List Int) : List Int := gapsGo size 0 one other
theorem gapsGo_len (size : Int) : ∀ (ms ts : List Int) (a : Int), ms.length = ts.length → (gapsGo size a ms ts).length = ms.length + 1
  | [], _, _, _ => rfl
  | _ :: _, [], _, h => by simp at h
  | m :: ms, t :: ts, a, h => by
    have := gapsGo_len size ms ts (t - m) (by simpa using h)
    simp only [gapsGo, List.length_cons, this]
theorem gapsGo_in {size : Int} (hs : 0 < size) : ∀ (ms ts : List Int) (a : Int), InR size (gapsGo size a ms ts)
  | [], ts, a, x, hx => by
    have e : x = (-a) % size := by cases ts <;> simpa [gapsGo] using hx
    subst e
    exact ⟨Int.emod_nonneg _ (by omega), Int.emod_lt_of_pos _ hs⟩
  | m :: ms, [], a, x, hx => by
    have e : x = (-a) % size := by simpa [gapsGo] using hx
    subst e
    exact ⟨Int.emod_nonneg _ (by omega), Int.emod_lt_of_pos _ hs⟩
  | m :: ms, t :: ts, a, x, hx => by
    unfold gapsGo at hx
    rcases List.mem_cons.mp hx with e | hx
    · subst e; exact ⟨Int.emod_nonneg _ (by omega), Int.emod_lt_of_pos _ hs⟩
    · exact gapsGo_in hs ms ts _ x hx
theorem emod_add_congr {a b c s : Int} (h : (a - b) % s = 0) : (a + c - (b + c)) % s = 0 := by
  rw [show a + c - (b + c) = a - b by omega]; exact h
theorem dvd_emod {x s : Int} : s ∣ x % s - x := by
  refine ⟨-(x / s), ?_⟩
  have := Int.mul_ediv_add_emod x s
  rw [Int.mul_neg]
  omega
/-- the sum of all -/
theorem gapsGo_sum (size : Int) : ∀ (ms ts : List Int) (a : Int), size ∣ (gapsGo size a ms ts).sum + a
  | [], ts, a => by
    have e : gapsGo size a [] ts = [(-a) % size] := by cases ts <;> rfl
    rw [e]
    have h := dvd_emod (x := -a) (s := size)
    simp only [List.sum_cons, List.sum_nil]
    rw [show (-a) % size + 0 + a = (-a) % size - (-a) by omega]
    exact h
  | m :: ms, [], a => by
    show size ∣ ([(-a) % size] : List Int).sum + a
    have h := dvd_emod (x := -a) (s := size)
    simp only [List.sum_cons, List.sum_nil]
    rw [show (-a) % size + 0 + a = (-a) % size - (-a) by omega]
    exact h
  | m :: ms, t :: ts, a => by
    have ih := gapsGo_sum size ms ts (t - m)
    have h := dvd_emod (x := t - m - a) (s := size)
    show size ∣ ((t - m - a) % size :: gapsGo size (t - m) ms ts).sum + a
    rw [List.sum_cons]
    have e : (t - m - a) % size + (gapsGo size (t - m) ms ts).sum + a = ((t - m - a) % size - (t - m - a)) + ((gapsGo size (t - m) ms ts).sum + (t - m)) := by omega
    rw [e]
    exact Int.dvd_add h ih
/-- the first ones' sum -/
theorem gapsGo_take (size : Int) : ∀ (ms ts : List Int) (a : Int) (j : Nat) (x y : Int), ms[j]? = some x → ts[j]? = some y → size ∣ ((gapsGo size a ms ts).take (j + 1)).sum + a - (y - x)
  | [], _, _, _, _, _, h, _ => by simp at h
  | _ :: _, [], _, _, _, _, _, h => by simp at h
  | m :: ms, t :: ts, a, 0, x, y, h1, h2 => by
    cases Option.some.inj h1
    cases Option.some.inj h2
    have h := dvd_emod (x := t - m - a) (s := size)
    show size ∣ (((t - m - a) % size :: gapsGo size (t - m) ms ts).take 1).sum + a - (t - m)
    rw [List.take_succ_cons, List.take_zero, List.sum_cons, List.sum_nil]
    rw [show (t - m - a) % size + 0 + a - (t - m) = (t - m - a) % size - (t - m - a) by omega]
    exact h
  | m :: ms, t :: ts, a, j + 1, x, y, h1, h2 => by
    have ih := gapsGo_take size ms ts (t - m) j x y h1 h2
    have h := dvd_emod (x := t - m - a) (s := size)
    show size ∣ (((t - m - a) % size :: gapsGo size (t - m) ms ts).take (j + 1 + 1)).sum + a - (y - x)
    rw [List.take_succ_cons, List.sum_cons]
    have e : (t - m - a) % size + ((gapsGo size (t - m) ms ts).take (j + 1)).sum + a - (y - x) = ((t - m - a) % size - (t - m - a)) + (((gapsGo size (t - m) ms ts).take (j + 1)).sum + (t - m) - (y - x)) := by omega
    rw [e]
    exact Int.dvd_add h ih
/-! ### the bound by a mark -/
def share (size mark gap : Int) : Int := if mark * (size - gap) < (size - mark) * gap then mark * (size - gap) else (size - mark) * gap
def bound (size mark : Int) (gaps : List Int) : Int := (gaps.map (share size mark)).sum
theorem share_le1 (size mark gap : Int) : share size mark gap ≤ (size - mark) * gap := by unfold share; split <;> omega
theorem share_le2 (size mark gap : Int) : share size mark gap ≤ mark * (size - gap) := by unfold share; split <;> omega
theorem share_low {size mark gap : Int} (h : gap ≤ mark) (hs : 0 ≤ size) : share size mark gap = (size - mark) * gap := by
  unfold share
  rw [if_neg]
  have h1 : (size - mark) * gap = size * gap - mark * gap := Int.sub_mul ..
  have h2 : mark * (size - gap) = size * mark - mark * gap := by rw [Int.mul_sub, Int.mul_comm mark size]
  have h3 : size * gap ≤ size * mark := Int.mul_le_mul_of_nonneg_left h hs
  omega
theorem share_high {size mark gap : Int} (h : mark ≤ gap) (hs : 0 ≤ size) : share size mark gap = mark * (size - gap) := by
  unfold share
  have h1 : (size - mark) * gap = size * gap - mark * gap := Int.sub_mul ..
  have h2 : mark * (size - gap) = size * mark - mark * gap := by rw [Int.mul_sub, Int.mul_comm mark size]
  have h3 : size * mark ≤ size * gap := Int.mul_le_mul_of_nonneg_left h hs
  split <;> omega
/-! ### grown -/
def pairsOf (gaps : List Int) : List (Int × Int) := gaps.zipIdx.map fun p => (p.1, (p.2 : Int))
def orderOf (gaps : List Int) : List (Int × Int) := isort leP (pairsOf gaps)
def manyOf (size : Int) (gaps : List Int) : Int := gaps.sum / size
def cutOf (size : Int) (gaps : List Int) : Nat := (gaps.length - manyOf size gaps).toNat
def lower (size : Int) (f : List Int) (p : Int × Int) : List Int := f.set p.2.toNat (p.1 - size)
def changesOf (size : Int) (gaps : List Int) : List Int := ((orderOf gaps).drop (cutOf size gaps)).foldl (lower size) gaps
def markOf (size : Int) (gaps : List Int) : Int := ((orderOf gaps).getD (cutOf size gaps - 1) (0, 0)).1
theorem pairsOf_len (gaps : List Int) : (pairsOf gaps).length = gaps.length := by simp [pairsOf]
theorem pairsOf_get (gaps : List Int) (i : Nat) : (pairsOf gaps)[i]? = gaps[i]?.map fun g => (g, (i : Int)) := by
  unfold pairsOf
  rw [List.getElem?_map, List.getElem?_zipIdx]
  cases gaps[i]? with
  | none => rfl
  | some g => simp
theorem pairsOf_fst (gaps : List Int) : (pairsOf gaps).map (·.1) = gaps := by
  refine List.ext_getElem? fun i => ?_
  rw [List.getElem?_map, pairsOf_get]
  cases gaps[i]? with
  | none => rfl
  | some g => rfl
theorem pairsOf_mem {gaps : List Int} {p : Int × Int} (h : p ∈ pairsOf gaps) : ∃ i : Nat, p.2 = i ∧ gaps[i]? = some p.1 := by
  obtain ⟨i, hi⟩ := List.getElem?_of_mem h
  rw [pairsOf_get] at hi
  cases e : gaps[i]? with
  | none => rw [e] at hi; cases hi
  | some g =>
    rw [e] at hi
    cases Option.some.inj hi
    exact ⟨i, rfl, e⟩
theorem pairsOf_snd_nodup (gaps : List Int) : ((pairsOf gaps).map (·.2)).Nodup := by
  unfold List.Nodup
  rw [List.pairwise_iff_getElem]
  intro i j hi hj hij
  have e : ∀ k (hk : k < ((pairsOf gaps).map (·.2)).length), ((pairsOf gaps).map (·.2))[k] = (k : Int) := fun k hk => by
    have h : ((pairsOf gaps).map (·.2))[k]? = some ((pairsOf gaps).map (·.2))[k] := List.getElem?_eq_getElem hk
    rw [List.getElem?_map, pairsOf_get] at h
    have hk' : k < gaps.length := by simpa [pairsOf] using hk
    rw [List.getElem?_eq_getElem hk'] at h
    exact (Option.some.inj h).symm
  rw [e i hi, e j hj]
  omega
theorem order_perm (gaps : List Int) : (orderOf gaps).Perm (pairsOf gaps) := isort_perm _ _
theorem order_len (gaps : List Int) : (orderOf gaps).length = gaps.length := by rw [(order_perm gaps).length_eq, pairsOf_len]
theorem order_snd_nodup (gaps : List Int) : ((orderOf gaps).map (·.2)).Nodup := ((order_perm gaps).map _).nodup_iff.mpr (pairsOf_snd_nodup gaps)
/-- lowering the places of U -/
theorem lower_fold_len (size : Int) : ∀ (U : List (Int × Int)) (f : List Int), (U.foldl (lower size) f).length = f.length
  | [], f => rfl
  | p :: U, f => by rw [List.foldl_cons, lower_fold_len size U]; simp [lower]
theorem lower_fold_get (size : Int) : ∀ (U : List (Int × Int)) (f : List Int), (U.map (·.2)).Nodup → (∀ p ∈ U, ∃ i : Nat, p.2 = i ∧ i < f.length) → ∀ i : Nat,
    (∀ g, (g, (i : Int)) ∈ U → (U.foldl (lower size) f)[i]? = some (g - size)) ∧ ((∀ g, (g, (i : Int)) ∉ U) → (U.foldl (lower size) f)[i]? = f[i]?)
  | [], f, _, _, i => ⟨fun g h => (nomatch h), fun _ => rfl⟩
  | p :: U, f, hn, hp, i => by
    obtain ⟨g0, p2⟩ := p
    rw [List.map_cons, List.nodup_cons] at hn
    obtain ⟨k, hk, hkl⟩ := hp _ List.mem_cons_self
    simp only at hk
    subst hk
    have ih := lower_fold_get size U (lower size f (g0, (k : Int))) hn.2 (fun q hq => by
      obtain ⟨m, h1, h2⟩ := hp q (List.mem_cons_of_mem _ hq)
      exact ⟨m, h1, by simpa [lower] using h2⟩) i
    rw [List.foldl_cons]
    have base : (lower size f (g0, (k : Int)))[i]? = if k = i then some (g0 - size) else f[i]? := by
      unfold lower
      rw [List.getElem?_set, Int.toNat_natCast]
      by_cases z : k = i
      · subst z; rw [if_pos rfl, if_pos hkl, if_pos rfl]
      · rw [if_neg z, if_neg z]
    refine ⟨fun g h => ?_, fun h => ?_⟩
    · rcases List.mem_cons.mp h with e | h
      · cases e
        have no : ∀ g', (g', (i : Int)) ∉ U := fun g' hm => hn.1 (List.mem_map.mpr ⟨_, hm, rfl⟩)
        rw [ih.2 no, base, if_pos rfl]
      · exact ih.1 g h
    · have no : ∀ g', (g', (i : Int)) ∉ U := fun g' hm => h g' (List.mem_cons_of_mem _ hm)
      rw [ih.2 no, base, if_neg]
      rintro rfl
      exact h g0 List.mem_cons_self
/-- any sum over the changes -/
theorem sum_changes (size : Int) (gaps : List Int) (φ : Int → Int) : ((changesOf size gaps).map φ).sum =
    (((orderOf gaps).take (cutOf size gaps)).map fun p => φ p.1).sum + (((orderOf gaps).drop (cutOf size gaps)).map fun p => φ (p.1 - size)).sum := by
  have hsplit : (orderOf gaps).take (cutOf size gaps) ++ (orderOf gaps).drop (cutOf size gaps) = orderOf gaps := List.take_append_drop _ _
  have hnd := order_snd_nodup gaps
  have hperm := order_perm gaps
  unfold changesOf
  generalize (orderOf gaps).take (cutOf size gaps) = L at hsplit
  generalize (orderOf gaps).drop (cutOf size gaps) = U at hsplit
  rw [← hsplit] at hnd hperm
  rw [List.map_append, List.nodup_append] at hnd
  obtain ⟨n1, n2, n3⟩ := hnd
  have hmem : ∀ p, p ∈ U → ∃ i : Nat, p.2 = i ∧ gaps[i]? = some p.1 := fun p hp => pairsOf_mem (hperm.mem_iff.mp (List.mem_append_right _ hp))
  have hmemL : ∀ p, p ∈ L → ∃ i : Nat, p.2 = i ∧ gaps[i]? = some p.1 := fun p hp => pairsOf_mem (hperm.mem_iff.mp (List.mem_append_left _ hp))
  have get := lower_fold_get size U gaps n2 (fun p hp => by
    obtain ⟨i, h1, h2⟩ := hmem p hp
    exact ⟨i, h1, (List.getElem?_eq_some_iff.mp h2).1⟩)
  -- the changes as a map over the pairs
  have e : (U.foldl (lower size) gaps) = (pairsOf gaps).map fun p => if p ∈ U then p.1 - size else p.1 := by
    refine List.ext_getElem? fun i => ?_
    rw [List.getElem?_map, pairsOf_get]
    cases hg : gaps[i]? with
    | none =>
      rw [Option.map_none, Option.map_none, List.getElem?_eq_none]
      rw [lower_fold_len]
      exact List.getElem?_eq_none_iff.mp hg
    | some g =>
      simp only [Option.map_some]
      by_cases hu : (g, (i : Int)) ∈ U
      · rw [if_pos hu, (get i).1 g hu]
      · rw [if_neg hu, (get i).2, hg]
        intro g' hg'
        obtain ⟨k, h1, h2⟩ := hmem _ hg'
        have : k = i := by
          have q : (i : Int) = (k : Int) := h1
          omega
        subst this
        rw [hg] at h2
        cases Option.some.inj h2
        exact hu hg'
  rw [e, List.map_map]
  have hp2 : ((pairsOf gaps).map (φ ∘ fun p => if p ∈ U then p.1 - size else p.1)).sum = ((L ++ U).map (φ ∘ fun p => if p ∈ U then p.1 - size else p.1)).sum := perm_sum (hperm.symm.map _)
  rw [hp2, List.map_append, sum_append]
  congr 1
  · refine sum_map_congr fun p hp => ?_
    have hu : p ∉ U := fun hu => n3 p.2 (List.mem_map.mpr ⟨p, hp, rfl⟩) p.2 (List.mem_map.mpr ⟨p, hu, rfl⟩) rfl
    simp only [Function.comp_apply, if_neg hu]
  · refine sum_map_congr fun p hp => ?_
    simp only [Function.comp_apply, if_pos hp]
theorem changes_len2 (size : Int) (gaps : List Int) : (changesOf size gaps).length = gaps.length := lower_fold_len ..
theorem changes_at (size : Int) (gaps : List Int) (i : Nat) (g : Int) (h : gaps[i]? = some g) : (changesOf size gaps)[i]? = some g ∨ (changesOf size gaps)[i]? = some (g - size) := by
  have hnd := order_snd_nodup gaps
  have hsub : ((orderOf gaps).drop (cutOf size gaps)).map (·.2) |>.Nodup := by
    rw [List.map_drop]
    exact hnd.sublist (List.drop_sublist _ _)
  have hmem : ∀ p, p ∈ (orderOf gaps).drop (cutOf size gaps) → ∃ i : Nat, p.2 = i ∧ gaps[i]? = some p.1 := fun p hp => pairsOf_mem ((order_perm gaps).mem_iff.mp (List.mem_of_mem_drop hp))
  have get := lower_fold_get size _ gaps hsub (fun p hp => by
    obtain ⟨i, h1, h2⟩ := hmem p hp
    exact ⟨i, h1, (List.getElem?_eq_some_iff.mp h2).1⟩) i
  unfold changesOf
  by_cases hu : (g, (i : Int)) ∈ (orderOf gaps).drop (cutOf size gaps)
  · exact .inr (get.1 g hu)
  · refine .inl ?_
    rw [get.2, h]
    intro g' hg'
    obtain ⟨k, h1, h2⟩ := hmem _ hg'
    have : k = i := by
          have q : (i : Int) = (k : Int) := h1
          omega
    subst this
    rw [h] at h2
    cases Option.some.inj h2
    exact hu hg'
/-! ### what holds of gaps -/
structure Gaps (size : Int) (gaps : List Int) : Prop where
  pos : 0 < size
  inR : InR size gaps
  div : size ∣ gaps.sum
  ne : gaps ≠ []
theorem gapsOf_ok {size : Int} (hs : 0 < size) {one other : List Int} : Gaps size (gapsOf size one other) := by
  refine ⟨hs, gapsGo_in hs _ _ _, ?_, ?_⟩
  · have := gapsGo_sum size one other 0
    rw [Int.add_zero] at this
    exact this
  · unfold gapsOf
    cases one with
    | nil => cases other <;> exact List.cons_ne_nil _ _
    | cons => cases other <;> exact List.cons_ne_nil _ _
section
variable {size : Int} {gaps : List Int}
theorem sum_range : ∀ {gaps : List Int}, InR size gaps → 0 ≤ gaps.sum ∧ gaps.sum ≤ gaps.length * (size - 1)
  | [], _ => by simp
  | g :: gs, h => by
    obtain ⟨h1, h2⟩ := sum_range (gaps := gs) fun x hx => h x (List.mem_cons_of_mem _ hx)
    obtain ⟨h3, h4⟩ := h g List.mem_cons_self
    rw [List.sum_cons, List.length_cons, Int.natCast_add, Int.add_mul]
    omega
theorem Gaps.many (h : Gaps size gaps) : 0 ≤ manyOf size gaps ∧ manyOf size gaps < gaps.length ∧ gaps.sum = manyOf size gaps * size := by
  obtain ⟨h1, h2⟩ := sum_range h.inR
  have hp := h.pos
  have hl : 0 < gaps.length := List.length_pos_iff.mpr h.ne
  have e : gaps.sum = manyOf size gaps * size := (Int.ediv_mul_cancel h.div).symm
  refine ⟨Int.ediv_nonneg h1 (by omega), ?_, e⟩
  refine Int.ediv_lt_of_lt_mul hp ?_
  rw [Int.mul_sub] at h2
  omega
theorem Gaps.cut (h : Gaps size gaps) : 1 ≤ cutOf size gaps ∧ cutOf size gaps ≤ gaps.length ∧ ((gaps.length - cutOf size gaps : Nat) : Int) = manyOf size gaps := by
  obtain ⟨h1, h2, _⟩ := h.many
  unfold cutOf
  omega
theorem Gaps.drop_len (h : Gaps size gaps) : (((orderOf gaps).drop (cutOf size gaps)).length : Int) = manyOf size gaps := by
  rw [List.length_drop, order_len]; exact h.cut.2.2
theorem Gaps.mem (h : Gaps size gaps) {p : Int × Int} (hp : p ∈ orderOf gaps) : 0 ≤ p.1 ∧ p.1 < size := by
  obtain ⟨i, _, h2⟩ := pairsOf_mem ((order_perm gaps).mem_iff.mp hp)
  exact h.inR _ (List.mem_of_getElem? h2)
theorem sum_order (φ : Int → Int) : (gaps.map φ).sum = ((orderOf gaps).map fun p => φ p.1).sum := by
  have e : (gaps.map φ) = (pairsOf gaps).map fun p => φ p.1 := by
    rw [show ((pairsOf gaps).map fun p => φ p.1) = ((pairsOf gaps).map (·.1)).map φ by rw [List.map_map]; rfl, pairsOf_fst]
  rw [e]
  exact perm_sum ((order_perm gaps).symm.map _)
theorem sum_split (φ : Int → Int) : (gaps.map φ).sum = (((orderOf gaps).take (cutOf size gaps)).map fun p => φ p.1).sum + (((orderOf gaps).drop (cutOf size gaps)).map fun p => φ p.1).sum := by
  rw [sum_order, ← sum_append, ← List.map_append, List.take_append_drop]
def posI (x : Int) : Int := if 0 < x then x else 0
def costOf (size : Int) (gaps : List Int) : Int := ((changesOf size gaps).map posI).sum
/-- the cost is the sum of those that are not lowered -/
theorem Gaps.cost (h : Gaps size gaps) : costOf size gaps = (((orderOf gaps).take (cutOf size gaps)).map fun p => p.1).sum := by
  unfold costOf
  rw [sum_changes]
  have e1 : (((orderOf gaps).take (cutOf size gaps)).map fun p => posI p.1).sum = (((orderOf gaps).take (cutOf size gaps)).map fun p => p.1).sum := sum_map_congr fun p hp => by
    have := h.mem (List.mem_of_mem_take hp)
    unfold posI; split <;> omega
  have e2 : (((orderOf gaps).drop (cutOf size gaps)).map fun p => posI (p.1 - size)).sum = (((orderOf gaps).drop (cutOf size gaps)).map fun _ => (0 : Int)).sum := sum_map_congr fun p hp => by
    have := h.mem (List.mem_of_mem_drop hp)
    unfold posI; split <;> omega
  rw [e1, e2, sum_map_const]
  omega
theorem Gaps.sum0 (h : Gaps size gaps) : (changesOf size gaps).sum = 0 := by
  have e := sum_changes size gaps id
  rw [List.map_id] at e
  have e2 := sum_split (size := size) (gaps := gaps) id
  rw [List.map_id] at e2
  have e3 : (((orderOf gaps).drop (cutOf size gaps)).map fun p => id (p.1 - size)).sum = (((orderOf gaps).drop (cutOf size gaps)).map fun p => id p.1).sum + (((orderOf gaps).drop (cutOf size gaps)).map fun _ => -size).sum := by
    rw [← sum_map_add]; rfl
  rw [sum_map_const, h.drop_len] at e3
  have e4 := h.many.2.2
  rw [Int.mul_neg] at e3
  omega
/-- no mark shows more -/
theorem Gaps.dual_le (h : Gaps size gaps) {m : Int} (h0 : 0 ≤ m) (h1 : m ≤ size) : bound size m gaps ≤ size * costOf size gaps := by
  unfold bound
  rw [sum_split (size := size), h.cost]
  have a := sum_map_le (l := (orderOf gaps).take (cutOf size gaps)) (f := fun p => share size m p.1) (g := fun p => (size - m) * p.1) fun p _ => share_le1 ..
  have b := sum_map_le (l := (orderOf gaps).drop (cutOf size gaps)) (f := fun p => share size m p.1) (g := fun p => m * size + (-m) * p.1) fun p _ => by
    have := share_le2 size m p.1
    rw [Int.mul_sub] at this
    rw [Int.neg_mul]; omega
  rw [sum_map_mul] at a
  rw [sum_map_add, sum_map_const, sum_map_mul, h.drop_len] at b
  have e2 := sum_split (size := size) (gaps := gaps) id
  rw [List.map_id, h.many.2.2] at e2
  simp only [id] at e2
  generalize (((orderOf gaps).take (cutOf size gaps)).map fun p => p.1).sum = A at *
  generalize (((orderOf gaps).drop (cutOf size gaps)).map fun p => p.1).sum = B at *
  generalize manyOf size gaps = k at *
  have e3 : m * (k * size) = m * A + m * B := by rw [e2, Int.mul_add]
  have e4 : k * (m * size) = m * (k * size) := by rw [← Int.mul_assoc, Int.mul_comm k m, Int.mul_assoc]
  rw [Int.sub_mul] at a
  rw [Int.neg_mul] at b
  omega
/-- the mark told shows as much -/
theorem Gaps.dual_eq (h : Gaps size gaps) : bound size (markOf size gaps) gaps = size * costOf size gaps := by
  unfold bound
  have hs : 0 ≤ size := by have := h.pos; omega
  obtain ⟨c1, c2, c3⟩ := h.cut
  have hlt : cutOf size gaps - 1 < (orderOf gaps).length := by rw [order_len]; omega
  have srt := isort_sorted leP leP_tot leP_tr (pairsOf gaps)
  have hm : markOf size gaps = ((orderOf gaps)[cutOf size gaps - 1]).1 := by
    unfold markOf
    rw [List.getD_eq_getElem?_getD, List.getElem?_eq_getElem hlt]; rfl
  have cmp : ∀ i j (hi : i < (orderOf gaps).length) (hj : j < (orderOf gaps).length), i ≤ j → ((orderOf gaps)[i]).1 ≤ ((orderOf gaps)[j]).1 := fun i j hi hj hij => by
    by_cases z : i = j
    · subst z; exact Int.le_refl _
    · exact leP_fst ((List.pairwise_iff_getElem.mp srt) i j hi hj (by omega))
  have low : ∀ p ∈ (orderOf gaps).take (cutOf size gaps), p.1 ≤ markOf size gaps := fun p hp => by
    obtain ⟨i, hi, e⟩ := List.getElem_of_mem hp
    rw [List.getElem_take] at e
    rw [List.length_take] at hi
    rw [hm, ← e]
    exact cmp _ _ _ _ (by omega)
  have high : ∀ p ∈ (orderOf gaps).drop (cutOf size gaps), markOf size gaps ≤ p.1 := fun p hp => by
    obtain ⟨i, hi, e⟩ := List.getElem_of_mem hp
    rw [List.getElem_drop] at e
    rw [List.length_drop] at hi
    rw [hm, ← e]
    exact cmp _ _ _ _ (by omega)
  rw [sum_split (size := size), h.cost]
  generalize markOf size gaps = m at *
  have a := sum_map_congr (l := (orderOf gaps).take (cutOf size gaps)) (f := fun p => share size m p.1) (g := fun p => (size - m) * p.1) fun p hp => share_low (low p hp) hs
  have b := sum_map_congr (l := (orderOf gaps).drop (cutOf size gaps)) (f := fun p => share size m p.1) (g := fun p => m * size + (-m) * p.1) fun p hp => by
    rw [share_high (high p hp) hs, Int.mul_sub, Int.neg_mul]; omega
  rw [sum_map_mul] at a
  rw [sum_map_add, sum_map_const, sum_map_mul, h.drop_len] at b
  have e2 := sum_split (size := size) (gaps := gaps) id
  rw [List.map_id, h.many.2.2] at e2
  simp only [id] at e2
  rw [a, b]
  generalize (((orderOf gaps).take (cutOf size gaps)).map fun p => p.1).sum = A at *
  generalize (((orderOf gaps).drop (cutOf size gaps)).map fun p => p.1).sum = B at *
  generalize manyOf size gaps = k at *
  have e3 : m * (k * size) = m * A + m * B := by rw [e2, Int.mul_add]
  have e4 : k * (m * size) = m * (k * size) := by rw [← Int.mul_assoc, Int.mul_comm k m, Int.mul_assoc]
  rw [Int.sub_mul, Int.neg_mul]
  omega
theorem Gaps.mark (h : Gaps size gaps) : 0 ≤ markOf size gaps ∧ markOf size gaps < size := by
  obtain ⟨c1, c2, c3⟩ := h.cut
  have hlt : cutOf size gaps - 1 < (orderOf gaps).length := by rw [order_len]; omega
  unfold markOf
  rw [List.getD_eq_getElem?_getD, List.getElem?_eq_getElem hlt]
  exact h.mem (List.getElem_mem hlt)
end
end DM

namespace DM
/-! ### stretches -/
abbrev Wt := Int × Int
/-- w: what waits, the last one first -/
def unwind (place : Int) : Int → List Wt → List Deed → Int × List Wt × List Deed
  | left, [], fd => (left, [], fd)
  | left, (f, s) :: w, fd =>
    if left ≠ 0 ∧ ¬ (0 < s ↔ 0 < left) then
      if (if left < 0 then -left else left) < (if s < 0 then -s else s) then (0, (f, s + left) :: w, fd ++ [(f, place, -left)])
      else unwind place (left + s) w (fd ++ [(f, place, s)])
    else (left, (f, s) :: w, fd)
def strPut (place : Int) (r : Int × List Wt × List Deed) : List Wt × List Deed := (if r.1 ≠ 0 then (place, r.1) :: r.2.1 else r.2.1, r.2.2)
def strGo : Nat → List Int → List Wt → List Deed → List Wt × List Deed
  | _, [], w, fd => (w, fd)
  | k, c :: cs, w, fd => strGo (k + 1) cs (strPut k (unwind k c w fd)).1 (strPut k (unwind k c w fd)).2
def strFound (cs : List Int) : List Deed := (strGo 0 cs [] []).2
def stretches (cs : List Int) : List Deed := isort leT (strFound cs)
/-! what holds -/
def wAt (w : List Wt) (p : Int) : Int := (w.map fun e => if e.1 = p then e.2 else 0).sum
def wPos (w : List Wt) : Int := (w.map fun e => posI e.2).sum
def wSum (w : List Wt) : Int := (w.map fun e => e.2).sum
def Signed (w : List Wt) : Prop := (∀ e ∈ w, 0 < e.2) ∨ (∀ e ∈ w, e.2 < 0)
structure Wi (k : Int) (w : List Wt) (fd : List Deed) : Prop where
  wr : ∀ e ∈ w, 0 ≤ e.1 ∧ e.1 < k ∧ e.2 ≠ 0
  sg : Signed w
  fr : ∀ d ∈ fd, 0 ≤ d.1 ∧ d.1 < d.2.1 ∧ d.2.1 ≤ k ∧ d.2.2 ≠ 0
theorem diff_append (a b : List Deed) (p : Int) : diffAt (a ++ b) p = diffAt a p + diffAt b p := by simp [diffAt]
theorem steps_append (a b : List Deed) : stepsOf (a ++ b) = stepsOf a + stepsOf b := by simp [stepsOf]
theorem diff_one (f pl s p : Int) : diffAt [(f, pl, s)] p = (if f = p then s else 0) - (if pl = p then s else 0) := by simp [diffAt]
theorem steps_one (f pl s : Int) : stepsOf [(f, pl, s)] = if s < 0 then -s else s := by simp [stepsOf]
theorem wAt_cons (e : Wt) (w : List Wt) (p : Int) : wAt (e :: w) p = (if e.1 = p then e.2 else 0) + wAt w p := by simp [wAt]
theorem wPos_cons (e : Wt) (w : List Wt) : wPos (e :: w) = posI e.2 + wPos w := by simp [wPos]
theorem wSum_cons (e : Wt) (w : List Wt) : wSum (e :: w) = e.2 + wSum w := by simp [wSum]
theorem Signed.tail {e : Wt} {w : List Wt} (h : Signed (e :: w)) : Signed w := by
  rcases h with h | h
  · exact .inl fun x hx => h x (List.mem_cons_of_mem _ hx)
  · exact .inr fun x hx => h x (List.mem_cons_of_mem _ hx)
/-- what unwind keeps: place = k -/
theorem unwind_ok {k : Int} : ∀ (w : List Wt) (left : Int) (fd : List Deed), Wi k w fd →
    Wi k (unwind k left w fd).2.1 (unwind k left w fd).2.2 ∧
    (∀ p, diffAt (unwind k left w fd).2.2 p + wAt (unwind k left w fd).2.1 p + (if p = k then (unwind k left w fd).1 else 0) = diffAt fd p + wAt w p + (if p = k then left else 0)) ∧
    stepsOf (unwind k left w fd).2.2 + wPos (unwind k left w fd).2.1 + posI (unwind k left w fd).1 = stepsOf fd + wPos w + posI left ∧
    wSum (unwind k left w fd).2.1 + (unwind k left w fd).1 = wSum w + left ∧
    ((unwind k left w fd).1 ≠ 0 → ∀ e ∈ (unwind k left w fd).2.1, (0 < e.2 ↔ 0 < (unwind k left w fd).1))
  | [], left, fd, h => by
    simp only [unwind]
    exact ⟨h, fun p => trivial, trivial, trivial, fun _ e he => nomatch he⟩
  | (f, s) :: w, left, fd, h => by
    obtain ⟨hw, hs, hf⟩ := h
    obtain ⟨f0, fk, s0⟩ := hw (f, s) List.mem_cons_self
    simp only at f0 fk s0
    unfold unwind
    by_cases c : left ≠ 0 ∧ ¬ (0 < s ↔ 0 < left)
    · rw [if_pos c]
      obtain ⟨l0, sgn⟩ := c
      by_cases c2 : (if left < 0 then -left else left) < (if s < 0 then -s else s)
      · rw [if_pos c2]
        have hnz : s + left ≠ 0 := by split at c2 <;> split at c2 <;> omega
        have hsg : (0 < s + left ↔ 0 < s) := by split at c2 <;> split at c2 <;> omega
        refine ⟨⟨fun e he => ?_, ?_, fun d hd => ?_⟩, fun p => ?_, ?_, ?_, fun z => absurd rfl z⟩
        · rcases List.mem_cons.mp he with rfl | he
          · exact ⟨f0, fk, hnz⟩
          · exact hw e (List.mem_cons_of_mem _ he)
        · rcases hs with hs | hs
          · refine .inl fun e he => ?_
            rcases List.mem_cons.mp he with rfl | he
            · exact hsg.mpr (hs (f, s) List.mem_cons_self)
            · exact hs e (List.mem_cons_of_mem _ he)
          · refine .inr fun e he => ?_
            rcases List.mem_cons.mp he with rfl | he
            · have := hs (f, s) List.mem_cons_self
              simp only at this ⊢
              omega
            · exact hs e (List.mem_cons_of_mem _ he)
        · rcases List.mem_append.mp hd with hd | hd
          · exact hf d hd
          · rcases List.mem_singleton.mp hd with rfl
            exact ⟨f0, fk, Int.le_refl _, by show -left ≠ 0; omega⟩
        · simp only [diff_append, diff_one, wAt_cons]
          by_cases e1 : f = p <;> by_cases e2 : p = k <;> simp only [e1, e2, if_true, if_false, eq_comm] <;> (try split) <;> omega
        · simp only [steps_append, steps_one, wPos_cons]
          unfold posI
          split at c2 <;> split at c2 <;> (repeat' split) <;> omega
        · simp only [wSum_cons]; omega
      · rw [if_neg c2]
        have ih := unwind_ok w (left + s) (fd ++ [(f, k, s)]) ⟨fun e he => hw e (List.mem_cons_of_mem _ he), hs.tail, fun d hd => by
          rcases List.mem_append.mp hd with hd | hd
          · exact hf d hd
          · rcases List.mem_singleton.mp hd with rfl
            exact ⟨f0, fk, Int.le_refl _, s0⟩⟩
        obtain ⟨i1, i2, i3, i4, i5⟩ := ih
        refine ⟨i1, fun p => ?_, ?_, ?_, i5⟩
        · rw [i2 p]
          simp only [diff_append, diff_one, wAt_cons]
          by_cases e1 : f = p <;> by_cases e2 : p = k <;> simp only [e1, e2, if_true, if_false, eq_comm] <;> (try split) <;> omega
        · rw [i3]
          simp only [steps_append, steps_one, wPos_cons]
          unfold posI
          split at c2 <;> split at c2 <;> (repeat' split) <;> omega
        · rw [i4]; simp only [wSum_cons]; omega
    · rw [if_neg c]
      refine ⟨⟨hw, hs, hf⟩, fun p => rfl, rfl, rfl, fun l0 e he => ?_⟩
      have hc : (0 < s ↔ 0 < left) := by
        by_cases z : (0 < s ↔ 0 < left)
        · exact z
        · exact absurd ⟨l0, z⟩ c
      rcases hs with hs | hs
      · have h1 := hs e he
        have h2 := hs (f, s) List.mem_cons_self
        simp only at h2
        exact ⟨fun _ => hc.mp h2, fun _ => h1⟩
      · have h1 := hs e he
        have h2 := hs (f, s) List.mem_cons_self
        simp only at h2
        exact ⟨fun z => absurd z (by omega), fun z => absurd (hc.mpr z) (by omega)⟩
theorem put_ok {k : Nat} {left : Int} {w : List Wt} {fd : List Deed} (h : Wi k w fd) :
    Wi (k + 1 : Nat) (strPut k (unwind k left w fd)).1 (strPut k (unwind k left w fd)).2 ∧
    (∀ p, diffAt (strPut k (unwind k left w fd)).2 p + wAt (strPut k (unwind k left w fd)).1 p = diffAt fd p + wAt w p + (if p = k then left else 0)) ∧
    stepsOf (strPut k (unwind k left w fd)).2 + wPos (strPut k (unwind k left w fd)).1 = stepsOf fd + wPos w + posI left ∧
    wSum (strPut k (unwind k left w fd)).1 = wSum w + left := by
  obtain ⟨⟨i1, i1b, i1c⟩, i2, i3, i4, i5⟩ := unwind_ok w left fd h
  generalize unwind k left w fd = r at i1 i1b i1c i2 i3 i4 i5
  obtain ⟨l, w', fd'⟩ := r
  simp only at i1 i1b i1c i2 i3 i4 i5
  unfold strPut
  simp only
  by_cases c : l ≠ 0
  · rw [if_pos c]
    refine ⟨⟨fun e he => ?_, ?_, fun d hd => ?_⟩, fun p => ?_, ?_, ?_⟩
    · rcases List.mem_cons.mp he with rfl | he
      · exact ⟨by show (0 : Int) ≤ k; omega, by show (k : Int) < ((k + 1 : Nat) : Int); omega, c⟩
      · obtain ⟨a, b, c⟩ := i1 e he
        exact ⟨a, by omega, c⟩
    · by_cases lp : 0 < l
      · refine .inl fun e he => ?_
        rcases List.mem_cons.mp he with rfl | he
        · exact lp
        · exact (i5 c e he).mpr lp
      · refine .inr fun e he => ?_
        rcases List.mem_cons.mp he with rfl | he
        · show l < 0; omega
        · have h1 := i5 c e he
          have h2 := (i1 e he).2.2
          omega
    · obtain ⟨a, b, c, d⟩ := i1c d hd
      exact ⟨a, b, by omega, d⟩
    · rw [← i2 p, wAt_cons]
      by_cases e2 : p = k
      · subst e2; simp; omega
      · rw [if_neg e2]; simp only [if_neg (fun z => e2 z.symm : ¬ (k : Int) = p)]; omega
    · rw [← i3, wPos_cons]; simp only; omega
    · rw [← i4, wSum_cons]; simp only; omega
  · rw [if_neg c]
    have l0 : l = 0 := by omega
    subst l0
    refine ⟨⟨fun e he => ?_, i1b, fun d hd => ?_⟩, fun p => ?_, ?_, ?_⟩
    · obtain ⟨a, b, c⟩ := i1 e he
      exact ⟨a, by omega, c⟩
    · obtain ⟨a, b, c, d⟩ := i1c d hd
      exact ⟨a, b, by omega, d⟩
    · rw [← i2 p]; split <;> omega
    · rw [← i3]; unfold posI; simp
    · rw [← i4]; omega
theorem strGo_ok : ∀ (cs : List Int) (k : Nat) (w : List Wt) (fd : List Deed), Wi k w fd → (∀ d ∈ fd, d.2.1 < k) →
    Wi (k + cs.length : Nat) (strGo k cs w fd).1 (strGo k cs w fd).2 ∧ (∀ d ∈ (strGo k cs w fd).2, d.2.1 < ((k + cs.length : Nat) : Int)) ∧
    (∀ p : Int, diffAt (strGo k cs w fd).2 p + wAt (strGo k cs w fd).1 p = diffAt fd p + wAt w p + (if (k : Int) ≤ p ∧ p < ((k + cs.length : Nat) : Int) then cs.getD (p - k).toNat 0 else 0)) ∧
    stepsOf (strGo k cs w fd).2 + wPos (strGo k cs w fd).1 = stepsOf fd + wPos w + (cs.map posI).sum ∧
    wSum (strGo k cs w fd).1 = wSum w + cs.sum
  | [], k, w, fd, h, hd => by
    unfold strGo
    refine ⟨h, hd, fun p => ?_, by simp, by simp⟩
    rw [if_neg (by simp only [List.length_nil]; omega)]
    simp
  | c :: cs, k, w, fd, h, hd => by
    unfold strGo
    obtain ⟨p1, p2, p3, p4⟩ := put_ok (left := c) h
    have ih := strGo_ok cs (k + 1) _ _ p1 (fun d hd => by
      have := (p1.fr d hd)
      have q : d.2.1 ≤ (k : Int) := by
        obtain ⟨⟨_, _, i1c⟩, _⟩ := unwind_ok w c fd h
        exact (i1c d hd).2.2.1
      omega)
    obtain ⟨j1, j2, j3, j4, j5⟩ := ih
    have el : k + 1 + cs.length = k + (c :: cs).length := by rw [List.length_cons]; omega
    rw [el] at j1 j2
    refine ⟨j1, j2, fun p => ?_, ?_, ?_⟩
    · rw [j3 p, p2 p, el]
      by_cases e : p = k
      · subst e
        have t1 : ¬ (((k + 1 : Nat) : Int) ≤ (k : Int) ∧ (k : Int) < ((k + (c :: cs).length : Nat) : Int)) := by omega
        have t2 : ((k : Int) ≤ (k : Int) ∧ (k : Int) < ((k + (c :: cs).length : Nat) : Int)) := by rw [List.length_cons]; omega
        rw [if_neg t1, if_pos t2, if_pos rfl]
        simp
      · rw [if_neg e]
        by_cases t : (k : Int) ≤ p ∧ p < ((k + (c :: cs).length : Nat) : Int)
        · have t1 : (((k + 1 : Nat) : Int) ≤ p ∧ p < ((k + (c :: cs).length : Nat) : Int)) := by omega
          rw [if_pos t, if_pos t1]
          have e3 : (p - (k : Int)).toNat = (p - ((k + 1 : Nat) : Int)).toNat + 1 := by omega
          rw [e3, List.getD_cons_succ]
          omega
        · have t1 : ¬ (((k + 1 : Nat) : Int) ≤ p ∧ p < ((k + (c :: cs).length : Nat) : Int)) := by omega
          rw [if_neg t, if_neg t1]; omega
    · rw [j4, p3, List.map_cons, List.sum_cons]; omega
    · rw [j5, p4, List.sum_cons]; omega
theorem signed_zero {w : List Wt} (hs : Signed w) (h0 : wSum w = 0) (hz : ∀ e ∈ w, e.2 ≠ 0) : w = [] := by
  cases w with
  | nil => rfl
  | cons e w =>
    exfalso
    rw [wSum_cons] at h0
    have hp : ∀ w : List Wt, (∀ e ∈ w, 0 < e.2) → 0 ≤ wSum w := fun w h => by
      induction w with
      | nil => exact Int.le_refl _
      | cons a w ih =>
        have := h a List.mem_cons_self
        have := ih fun e he => h e (List.mem_cons_of_mem _ he)
        rw [wSum_cons]; omega
    have hn : ∀ w : List Wt, (∀ e ∈ w, e.2 < 0) → wSum w ≤ 0 := fun w h => by
      induction w with
      | nil => exact Int.le_refl _
      | cons a w ih =>
        have := h a List.mem_cons_self
        have := ih fun e he => h e (List.mem_cons_of_mem _ he)
        rw [wSum_cons]; omega
    rcases hs with hs | hs
    · have h1 := hs e List.mem_cons_self
      have h2 := hp w fun x hx => hs x (List.mem_cons_of_mem _ hx)
      omega
    · have h1 := hs e List.mem_cons_self
      have h2 := hn w fun x hx => hs x (List.mem_cons_of_mem _ hx)
      omega
structure Str (cs : List Int) (fd : List Deed) : Prop where
  fr : ∀ d ∈ fd, 0 ≤ d.1 ∧ d.1 < d.2.1 ∧ d.2.1 < cs.length ∧ d.2.2 ≠ 0
  df : ∀ p : Nat, p < cs.length → diffAt fd p = cs.getD p 0
  st : stepsOf fd = (cs.map posI).sum
theorem perm_map_sum {α : Type} {f : α → Int} {l m : List α} (h : l.Perm m) : (l.map f).sum = (m.map f).sum := perm_sum (h.map f)
theorem Str.perm {cs : List Int} {fd fd' : List Deed} (h : Str cs fd) (p : fd'.Perm fd) : Str cs fd' :=
  ⟨fun d hd => h.fr d (p.mem_iff.mp hd), fun q hq => by rw [← h.df q hq]; exact perm_map_sum p, by rw [← h.st]; exact perm_map_sum p⟩
theorem strFound_ok {cs : List Int} (h : cs.sum = 0) : Str cs (strFound cs) := by
  have base : Wi (0 : Nat) [] [] := ⟨fun _ h => (nomatch h), .inl fun _ h => (nomatch h), fun _ h => (nomatch h)⟩
  obtain ⟨j1, j2, j3, j4, j5⟩ := strGo_ok cs 0 [] [] base (fun _ h => nomatch h)
  unfold strFound
  have w0 : (strGo 0 cs [] []).1 = [] := signed_zero j1.sg (by rw [j5, h]; rfl) fun e he => (j1.wr e he).2.2
  rw [w0] at j3 j4
  refine ⟨fun d hd => ?_, fun p hp => ?_, ?_⟩
  · obtain ⟨a, b, _, c⟩ := j1.fr d hd
    have := j2 d hd
    exact ⟨a, b, by omega, c⟩
  · have e := j3 p
    rw [if_pos (by omega)] at e
    have z1 : wAt [] (p : Int) = 0 := rfl
    have z2 : diffAt [] (p : Int) = 0 := rfl
    rw [z1, z2] at e
    simp at e
    simpa using e
  · have z1 : wPos [] = 0 := rfl
    have z2 : stepsOf [] = 0 := rfl
    rw [z1, z2] at j4
    omega
theorem stretches_ok {cs : List Int} (h : cs.sum = 0) : Str cs (stretches cs) := (strFound_ok h).perm (isort_perm _ _)
/-! ### the fewest steps -/
def bestDeeds (size : Int) (one other : List Int) : List Deed := stretches (changesOf size (gapsOf size one other))
def bestMark (size : Int) (one other : List Int) : Int := markOf size (gapsOf size one other)
def apartOf (size : Int) (one other : List Int) : Int := costOf size (gapsOf size one other)
theorem cover_take {ds : List Deed} (n : Nat) (hv : ∀ d ∈ ds, Okd n d) (cs : List Int) (hd : ∀ p : Nat, p < cs.length → diffAt ds p = cs.getD p 0) : ∀ j : Nat, j < cs.length → coverAt ds j = (cs.take (j + 1)).sum
  | 0, hj => by
    have e := cover_zero n hv
    have h1 := hd 0 hj
    rw [List.take_add_one, List.getElem?_eq_getElem hj]
    rw [show ((0 : Nat) : Int) = 0 from rfl] at *
    rw [e, h1, List.getD_eq_getElem?_getD, List.getElem?_eq_getElem hj]
    simp
  | j + 1, hj => by
    have e := cover_succ n hv (j : Int)
    have ih := cover_take n hv cs hd j (by omega)
    have h1 := hd (j + 1) hj
    rw [List.take_add_one, sum_append, ← ih, List.getElem?_eq_getElem hj]
    rw [show ((j + 1 : Nat) : Int) = (j : Int) + 1 by omega] at *
    rw [e, h1, List.getD_eq_getElem?_getD, List.getElem?_eq_getElem hj]
    simp
theorem take_congr {size : Int} {g c : List Int} (hl : c.length = g.length) (h : ∀ (i : Nat) (x : Int), g[i]? = some x → c[i]? = some x ∨ c[i]? = some (x - size)) : ∀ k : Nat, size ∣ (c.take k).sum - (g.take k).sum
  | 0 => by simp
  | k + 1 => by
    have ih := take_congr hl h k
    cases hg : g[k]? with
    | none =>
      have hc : c[k]? = none := by
        rw [List.getElem?_eq_none_iff] at hg ⊢; omega
      rw [List.take_add_one, List.take_add_one, hg, hc]
      simpa using ih
    | some x =>
      rcases h k x hg with e | e
      · rw [List.take_add_one, List.take_add_one, hg, e, sum_append, sum_append]
        show size ∣ (c.take k).sum + ([x] : List Int).sum - ((g.take k).sum + ([x] : List Int).sum)
        rw [show (c.take k).sum + ([x] : List Int).sum - ((g.take k).sum + ([x] : List Int).sum) = (c.take k).sum - (g.take k).sum by omega]
        exact ih
      · rw [List.take_add_one, List.take_add_one, hg, e, sum_append, sum_append]
        show size ∣ (c.take k).sum + ([x - size] : List Int).sum - ((g.take k).sum + ([x] : List Int).sum)
        rw [show (c.take k).sum + ([x - size] : List Int).sum - ((g.take k).sum + ([x] : List Int).sum) = ((c.take k).sum - (g.take k).sum) + -size by simp; omega]
        exact Int.dvd_add ih ((Int.dvd_neg).mpr (Int.dvd_refl _))
section
variable {size : Int} {one other : List Int}
theorem best_len (hl : one.length = other.length) : (changesOf size (gapsOf size one other)).length = one.length + 1 := by
  rw [changes_len2]; exact gapsGo_len size one other 0 hl
theorem best_str (hs : 0 < size) : Str (changesOf size (gapsOf size one other)) (bestDeeds size one other) := stretches_ok (gapsOf_ok hs).sum0
theorem best_ok (hs : 0 < size) (hl : one.length = other.length) : ∀ d ∈ bestDeeds size one other, Okd one.length d := fun d hd => by
  obtain ⟨a, b, c, e⟩ := (best_str hs).fr d hd
  rw [best_len hl] at c
  exact ⟨a, b, by omega, e⟩
theorem best_turns (hs : 0 < size) (hl : one.length = other.length) (ho : InR size other) : turnedBy size one (bestDeeds size one other) = other := by
  have hv := best_ok hs hl
  refine List.ext_getElem? fun j => ?_
  rw [turnedBy_get hv]
  cases h1 : one[j]? with
  | none =>
    rw [Option.map_none, eq_comm, List.getElem?_eq_none_iff]
    have := List.getElem?_eq_none_iff.mp h1; omega
  | some x =>
    have hj : j < one.length := (List.getElem?_eq_some_iff.mp h1).1
    have h2 : other[j]? = some (other[j]'(by omega)) := List.getElem?_eq_getElem (by omega)
    generalize other[j]'(by omega) = y at h2
    have hy := ho y (List.mem_of_getElem? h2)
    rw [h2, Option.map_some]
    congr 1
    have e := cover_take one.length hv _ (best_str hs).df j (by rw [best_len hl]; omega)
    have g1 := gapsGo_take size one other 0 j x y h1 h2
    have g2 := take_congr (size := size) (changes_len2 size (gapsOf size one other)) (fun i x h => changes_at size _ i x h) (j + 1)
    rw [e]
    have d : size ∣ x + ((changesOf size (gapsOf size one other)).take (j + 1)).sum - y := by
      have e2 : x + ((changesOf size (gapsOf size one other)).take (j + 1)).sum - y = (((changesOf size (gapsOf size one other)).take (j + 1)).sum - ((gapsOf size one other).take (j + 1)).sum) + (((gapsGo size 0 one other).take (j + 1)).sum + 0 - (y - x)) := by
        unfold gapsOf; omega
      rw [e2]
      exact Int.dvd_add g2 g1
    have e3 : (x + ((changesOf size (gapsOf size one other)).take (j + 1)).sum) % size = y % size := Int.emod_eq_emod_iff_emod_sub_eq_zero.mpr (Int.emod_eq_zero_of_dvd d)
    rw [e3, Int.emod_eq_of_lt hy.1 hy.2]
theorem best_steps (hs : 0 < size) : stepsOf (bestDeeds size one other) = apartOf size one other := (best_str hs).st
theorem best_bound (hs : 0 < size) : size * stepsOf (bestDeeds size one other) = bound size (bestMark size one other) (gapsOf size one other) := by
  rw [best_steps hs]; exact (gapsOf_ok hs).dual_eq.symm
theorem best_mark (hs : 0 < size) : 0 ≤ bestMark size one other ∧ bestMark size one other < size := (gapsOf_ok hs).mark
end
/-! ### what shows, and the law's own look -/
def inMark (size mark : Int) : Bool := decide (0 ≤ mark) && decide (mark ≤ size)
def showsOf (size : Int) (ds : List Deed) (mark : Int) (one other : List Int) : Bool :=
  ds.all (isDeed one.length) && (decide (turnedBy size one ds = other) && inMark size mark && decide (size * stepsOf ds = bound size mark (gapsOf size one other)))
def lawBest (size : Int) (one other : List Int) (ds : List Deed) (mark : Int) : Bool :=
  decide (lawTurned size one ds = some other) && inMark size mark && decide (size * stepsOf ds = bound size mark (gapsOf size one other))
theorem shows_eq {size : Int} {ds : List Deed} {mark : Int} {one other : List Int} (h : InR size one) : showsOf size ds mark one other = lawBest size one other ds mark := by
  unfold showsOf lawBest
  by_cases hv : ∀ d ∈ ds, Okd one.length d
  · have e1 : ds.all (isDeed one.length) = true := List.all_eq_true.mpr fun d hd => isDeed_iff.mpr (hv d hd)
    rw [e1, lawTurned_ok h hv]
    simp
  · have hv' : ∃ d ∈ ds, isDeed one.length d = false := by
      obtain ⟨d, hd, h3⟩ : ∃ d, d ∈ ds ∧ ¬ Okd one.length d := by
        by_cases z : ∃ d, d ∈ ds ∧ ¬ Okd one.length d
        · exact z
        · exact absurd (fun d hd => by
            by_cases q : Okd one.length d
            · exact q
            · exact absurd ⟨d, hd, q⟩ z) hv
      refine ⟨d, hd, ?_⟩
      cases q : isDeed one.length d with
      | false => rfl
      | true => exact absurd (isDeed_iff.mp q) h3
    have e1 : ds.all (isDeed one.length) = false := by
      obtain ⟨d, hd, h3⟩ := hv'
      exact List.all_eq_false.mpr ⟨d, hd, by rw [h3]; exact Bool.false_ne_true⟩
    have e2 : lawTurned size one ds = none := lawGo_none ds one hv'
    rw [e1, e2]
    simp
theorem best_shows {size : Int} {one other : List Int} (hs : 0 < size) (hl : one.length = other.length) (ho : InR size other) : showsOf size (bestDeeds size one other) (bestMark size one other) one other = true := by
  unfold showsOf inMark
  obtain ⟨m1, m2⟩ := best_mark (one := one) (other := other) hs
  rw [List.all_eq_true.mpr fun d hd => isDeed_iff.mpr (best_ok hs hl d hd), best_turns hs hl ho, best_bound hs, decide_eq_true m1, decide_eq_true (show bestMark size one other ≤ size by omega)]
  simp
end DM
namespace DM
/-! the law's own gaps -/
def stepsBetween (size : Int) : List Int → List Int
  | x :: y :: r => (y - x) % size :: stepsBetween size (y :: r)
  | _ => []
def turnsOf (one other : List Int) : List Int := 0 :: ((List.zipWith (fun m t => t - m) one other) ++ [0])
theorem stepsBetween_go (size : Int) : ∀ (ms ts : List Int) (a : Int), stepsBetween size (a :: ((List.zipWith (fun m t => t - m) ms ts) ++ [0])) = gapsGo size a ms ts
  | [], ts, a => by
    cases ts <;> simp [stepsBetween, gapsGo]
  | m :: ms, [], a => by simp [stepsBetween, gapsGo]
  | m :: ms, t :: ts, a => by
    have ih := stepsBetween_go size ms ts (t - m)
    simp only [List.zipWith_cons_cons, List.cons_append, stepsBetween, gapsGo]
    rw [ih]
theorem gaps_between (size : Int) (one other : List Int) : gapsOf size one other = stepsBetween size (turnsOf one other) := (stepsBetween_go size one other 0).symm
theorem stepsBetween_get (size : Int) : ∀ (l : List Int) (k : Nat) (x y : Int), l[k]? = some x → l[k + 1]? = some y → (stepsBetween size l)[k]? = some ((y - x) % size)
  | [], k, x, y, h, _ => by simp at h
  | [z], k, x, y, _, h => by simp at h
  | a :: b :: r, 0, x, y, h1, h2 => by
    cases Option.some.inj h1
    cases Option.some.inj h2
    rfl
  | a :: b :: r, k + 1, x, y, h1, h2 => stepsBetween_get size (b :: r) k x y h1 h2
theorem stepsBetween_len (size : Int) : ∀ l : List Int, (stepsBetween size l).length = l.length - 1
  | [] => rfl
  | [_] => rfl
  | a :: b :: r => by
    have ih := stepsBetween_len size (b :: r)
    simp only [stepsBetween, List.length_cons] at ih ⊢
    omega
end DM
namespace DM
/-! how many, how much -/
theorem unwind_len (k : Int) : ∀ (w : List Wt) (left : Int) (fd : List Deed), (unwind k left w fd).2.2.length + (unwind k left w fd).2.1.length ≤ fd.length + w.length + 1
  | [], left, fd => by simp [unwind]
  | (f, s) :: w, left, fd => by
    unfold unwind
    by_cases c : left ≠ 0 ∧ ¬ (0 < s ↔ 0 < left)
    · rw [if_pos c]
      by_cases c2 : (if left < 0 then -left else left) < (if s < 0 then -s else s)
      · rw [if_pos c2]; simp only [List.length_append, List.length_cons, List.length_nil]; omega
      · rw [if_neg c2]
        have ih := unwind_len k w (left + s) (fd ++ [(f, k, s)])
        rw [List.length_append, List.length_singleton] at ih
        rw [List.length_cons]
        omega
    · rw [if_neg c]; simp only [List.length_cons]; omega
theorem strGo_len : ∀ (cs : List Int) (k : Nat) (w : List Wt) (fd : List Deed), (strGo k cs w fd).2.length + (strGo k cs w fd).1.length ≤ fd.length + w.length + 2 * cs.length
  | [], k, w, fd => by simp [strGo]
  | c :: cs, k, w, fd => by
    unfold strGo
    have ih := strGo_len cs (k + 1) (strPut k (unwind k c w fd)).1 (strPut k (unwind k c w fd)).2
    have h := unwind_len k w c fd
    have h2 : (strPut k (unwind k c w fd)).1.length ≤ (unwind k c w fd).2.1.length + 1 := by
      unfold strPut; simp only; split <;> simp
    have h3 : (strPut k (unwind k c w fd)).2 = (unwind k c w fd).2.2 := rfl
    rw [h3] at ih ⊢
    rw [List.length_cons]
    omega
theorem stretches_len (cs : List Int) : (stretches cs).length ≤ 2 * cs.length := by
  unfold stretches
  rw [(isort_perm leT _).length_eq]
  have := strGo_len cs 0 [] []
  unfold strFound
  simp only [List.length_nil] at this
  omega
theorem posI_nonneg (x : Int) : 0 ≤ posI x := by unfold posI; split <;> omega
theorem sum_nonneg {α : Type} {f : α → Int} (h : ∀ x, 0 ≤ f x) : ∀ l : List α, 0 ≤ (l.map f).sum
  | [] => Int.le_refl _
  | a :: l => by
    have := sum_nonneg h l
    have := h a
    rw [List.map_cons, List.sum_cons]; omega
theorem stepsOf_nonneg (ds : List Deed) : 0 ≤ stepsOf ds := sum_nonneg (fun d => by split <;> omega) ds
theorem costOf_nonneg (size : Int) (gaps : List Int) : 0 ≤ costOf size gaps := sum_nonneg posI_nonneg _
theorem Gaps.cost_le {size : Int} {gaps : List Int} (h : Gaps size gaps) : costOf size gaps ≤ gaps.length * (size - 1) := by
  rw [h.cost]
  have e := sum_split (size := size) (gaps := gaps) id
  rw [List.map_id] at e
  simp only [id] at e
  have h2 : 0 ≤ (((orderOf gaps).drop (cutOf size gaps)).map fun p => p.1).sum := by
    have : ∀ l : List (Int × Int), (∀ p ∈ l, 0 ≤ p.1) → 0 ≤ (l.map fun p => p.1).sum := fun l hl => by
      induction l with
      | nil => exact Int.le_refl _
      | cons a l ih =>
        have := ih fun p hp => hl p (List.mem_cons_of_mem _ hp)
        have := hl a List.mem_cons_self
        rw [List.map_cons, List.sum_cons]; omega
    exact this _ fun p hp => (h.mem (List.mem_of_mem_drop hp)).1
  have := (sum_range h.inR).2
  omega
theorem mul_bound {n : Nat} {s : Int} (hn : n ≤ 1001) (h1 : 0 ≤ s) (h2 : s < 2 ^ 107) : (n : Int) * s < 2 ^ 118 := by
  have h3 : (n : Int) * s ≤ 1001 * s := Int.mul_le_mul_of_nonneg_right (by omega) h1
  omega
section
variable {size : Int} {one other : List Int}
theorem best_deeds_len (hl : one.length = other.length) (h : one.length ≤ 1000) : (bestDeeds size one other).length ≤ 2002 := by
  have := stretches_len (changesOf size (gapsOf size one other))
  rw [best_len hl] at this
  unfold bestDeeds; omega
theorem apart_bound (hs : 0 < size) (hz : size < 2 ^ 107) (hl : one.length = other.length) (h : one.length ≤ 1000) : 0 ≤ apartOf size one other ∧ apartOf size one other < 2 ^ 118 := by
  refine ⟨costOf_nonneg _ _, ?_⟩
  have h1 := (gapsOf_ok (one := one) (other := other) hs).cost_le
  have h2 : (gapsOf size one other).length = one.length + 1 := gapsGo_len size one other 0 hl
  have h3 := mul_bound (n := one.length + 1) (s := size - 1) (by omega) (by omega) (by omega)
  rw [h2] at h1
  unfold apartOf
  omega
theorem best_steps_bound (hs : 0 < size) (hz : size < 2 ^ 107) (hl : one.length = other.length) (h : one.length ≤ 1000) : 0 ≤ stepsOf (bestDeeds size one other) ∧ stepsOf (bestDeeds size one other) < 2 ^ 118 := by
  rw [best_steps hs]; exact apart_bound hs hz hl h
end
theorem shows_bad {size mark : Int} {one other : List Int} {ds : List Deed} : showsOf size (ds ++ [(0, (one.length : Int) + 1, 1)]) mark one other = false := by
  unfold showsOf
  rw [List.all_append]
  have e : ([((0 : Int), (one.length : Int) + 1, (1 : Int))] : List Deed).all (isDeed one.length) = false := by
    simp [isDeed]
    omega
  rw [e]
  simp
end DM

namespace Dr
open PySem PySem.Spec PyProof.Rows L2
/-! ### lists item by item -/
inductive AllR {α : Type} (R : V → α → Prop) : List V → List α → Prop
  | nil : AllR R [] []
  | cons {v : V} {x : α} {vs : List V} {xs : List α} : R v x → AllR R vs xs → AllR R (v :: vs) (x :: xs)
theorem AllR.len {α : Type} {R : V → α → Prop} : ∀ {vs : List V} {xs : List α}, AllR R vs xs → vs.length = xs.length
  | _, _, .nil => rfl
  | _, _, .cons _ h => by rw [List.length_cons, List.length_cons, AllR.len h]
theorem AllR.mono {α : Type} {R R' : V → α → Prop} (m : ∀ v x, R v x → R' v x) : ∀ {vs : List V} {xs : List α}, AllR R vs xs → AllR R' vs xs
  | _, _, .nil => .nil
  | _, _, .cons h t => .cons (m _ _ h) (AllR.mono m t)
theorem AllR.append {α : Type} {R : V → α → Prop} : ∀ {vs ws : List V} {xs ys : List α}, AllR R vs xs → AllR R ws ys → AllR R (vs ++ ws) (xs ++ ys)
  | _, _, _, _, .nil, h => h
  | _, _, _, _, .cons a b, h => .cons a (AllR.append b h)
theorem AllR.one {α : Type} {R : V → α → Prop} {v : V} {x : α} (h : R v x) : AllR R [v] [x] := .cons h .nil
theorem AllR.get {α : Type} {R : V → α → Prop} : ∀ {vs : List V} {xs : List α} {i : Nat} {x : α}, AllR R vs xs → xs[i]? = some x → ∃ v, vs[i]? = some v ∧ R v x
  | _, _, i, _, .nil, h => by simp at h
  | _, _, 0, _, .cons a _, h => by cases Option.some.inj h; exact ⟨_, rfl, a⟩
  | _, _, i + 1, _, .cons _ b, h => AllR.get (i := i) b h
theorem AllR.getV {α : Type} {R : V → α → Prop} : ∀ {vs : List V} {xs : List α} {i : Nat} {v : V}, AllR R vs xs → vs[i]? = some v → ∃ x, xs[i]? = some x ∧ R v x
  | _, _, i, _, .nil, h => by simp at h
  | _, _, 0, _, .cons a _, h => by cases Option.some.inj h; exact ⟨_, rfl, a⟩
  | _, _, i + 1, _, .cons _ b, h => AllR.getV (i := i) b h
theorem AllR.dropLast {α : Type} {R : V → α → Prop} : ∀ {vs : List V} {xs : List α}, AllR R vs xs → AllR R vs.dropLast xs.dropLast
  | _, _, .nil => .nil
  | _, _, .cons _ .nil => .nil
  | _, _, .cons a (.cons b t) => by
    show AllR R (_ :: (_ :: _).dropLast) (_ :: (_ :: _).dropLast)
    exact .cons a (AllR.dropLast (.cons b t))
theorem AllR.dp {α : Type} {K : PySem.W.Frag} {G : Hp} {R : V → α → Prop} {f : α → PyData} (m : ∀ v x, R v x → Dp K G v (f x)) : ∀ {vs : List V} {xs : List α}, AllR R vs xs → DpAll K G vs (xs.map f)
  | _, _, .nil => .nil
  | _, _, .cons h t => .cons (m _ _ h) (AllR.dp m t)
theorem AllR.fn {α : Type} {R : V → α → Prop} {k : V → α} (m : ∀ v x, R v x → k v = x) : ∀ {vs : List V} {xs : List α}, AllR R vs xs → vs.map k = xs
  | _, _, .nil => rfl
  | _, _, .cons h t => by rw [List.map_cons, m _ _ h, AllR.fn m t]
theorem AllR.of {α : Type} {R : V → α → Prop} {k : V → α} : ∀ {vs : List V}, (∀ v ∈ vs, R v (k v)) → AllR R vs (vs.map k)
  | [], _ => .nil
  | v :: vs, h => .cons (h v List.mem_cons_self) (AllR.of fun u hu => h u (List.mem_cons_of_mem _ hu))
theorem AllR.mem {α : Type} {R : V → α → Prop} : ∀ {vs : List V} {xs : List α} {v : V}, AllR R vs xs → v ∈ vs → ∃ x, R v x
  | _, _, _, .nil, h => nomatch h
  | _, _, _, .cons a b, h => by
    rcases List.mem_cons.mp h with rfl | h
    · exact ⟨_, a⟩
    · exact AllR.mem b h
/-- a comprehension whose items are told more closely -/
theorem lc_wkR {α : Type} (Rel : Hp → V → α → Prop) (mono : ∀ G G' v x, Same G G' → Rel G v x → Rel G' v x) {K : PySem.W.Frag} {J : It} {n : Nat} {Gw : Hp} {Y : Nat → PyData → Prop} (w : Wk K J n Gw Y) {g : TG} {te : TE} {vs : List Nat} {σ : L2.St} {G0 H0 G H : Hp}
    {Γ : List (V × PyData)} {Λ : List (Addr × HO)} {D : Addr} {Qd : Hp → Prop} (s : S K G0 H0 Γ Λ G H) (hD : H D = none) (hw : Same Gw G) (hn : n < sizeLine) (out : List α) (hl : out.length = n)
    (he : ∀ i d x G1 H1, i < n → Y i d → S K G0 H0 Γ Λ G1 H1 → Dp K G1 x d → ∀ R : V → Hp → Prop, (∀ y G3 H3 e, Gr G1 H1 G3 H3 → out[i]? = some e → Rel G3 y e → R y H3) → g x (wipe σ vs) H1 fun σ2 H2 => wipe σ2 vs = wipe σ vs ∧ te σ2 H2 R)
    (hq : ∀ xs G1 H1, S K G0 H0 Γ ((D, .lst xs) :: Λ) G1 H1 → AllR (Rel G1) xs out → Qd H1) :
    ∃ W : Nat → Nat → Hp → Prop, (∃ m, W 0 m (upd H D (.lst []))) ∧ ∀ i m H, W i m H →
      (J.stop i H ∧ Qd H) ∨ (J.go i H ∧ ∃ Nx : Hp → Prop, (∀ H', Nx H' → ∃ m', m' < m ∧ W (i + 1) m' H') ∧ ∀ x H', J.yld i H x H' → g x (wipe σ vs) H' fun σ2 H2 => wipe σ2 vs = wipe σ vs ∧ tYes σ2 H2 fun b H3 =>
        if b = true then te σ2 H3 fun y H4 => ∃ acc, H4 D = some (.lst acc) ∧ acc.length < sizeLine ∧ Nx (upd H4 D (.lst (acc ++ [y]))) else Nx H3) := by
  refine ⟨fun i m H => m = n - i ∧ i ≤ n ∧ ∃ G acc, S K G0 H0 Γ ((D, .lst acc) :: Λ) G H ∧ Same Gw G ∧ AllR (Rel G) acc (out.take i), ⟨n, by simp, Nat.zero_le _, G, [], s.new hD, hw, by rw [List.take_zero]; exact .nil⟩, ?_⟩
  rintro i m H ⟨rfl, hi, G, acc, s, e1, hacc⟩
  by_cases hlt : i < n
  · refine .inr ⟨w.goes i G H hlt e1 s.same, fun H => ∃ G acc, S K G0 H0 Γ ((D, .lst acc) :: Λ) G H ∧ Same Gw G ∧ AllR (Rel G) acc (out.take (i + 1)), fun H' p' => ⟨n - (i + 1), by omega, rfl, hlt, p'⟩, fun x H' y => ?_⟩
    obtain ⟨G1, d, g1, hy, hx⟩ := w.yields i G H x H' hlt e1 s.same y
    have s1 := s.grow g1
    refine he i d x G1 H' hlt hy s1.drop hx _ fun y G3 H3 e g3 ho hy3 => ?_
    have s3 := s1.grow g3
    have ha : acc.length < sizeLine := by
      have := AllR.len hacc
      rw [List.length_take] at this
      omega
    refine ⟨acc, s3.o 0 rfl, ha, G3, acc ++ [y], s3.put 0 rfl _, (e1.trans g1.g).trans g3.g, ?_⟩
    rw [List.take_add_one, ho]
    exact AllR.append (AllR.mono (fun v x h => mono _ _ v x (g1.g.trans g3.g) h) hacc) (AllR.one hy3)
  · have e : i = n := by omega
    subst e
    refine .inl ⟨w.stops G H e1 s.same, hq acc G H s ?_⟩
    rw [List.take_of_length_le (by omega)] at hacc
    exact hacc
/-! ### tuples of numbers that stand in the heap -/
def Tp2 (G : Hp) (v : V) (p : Int × Int) : Prop := ∃ t, v = .ref t ∧ G t = some (.tup [.int p.1, .int p.2])
def Tp3 (G : Hp) (v : V) (p : Int × Int × Int) : Prop := ∃ t, v = .ref t ∧ G t = some (.tup [.int p.1, .int p.2.1, .int p.2.2])
theorem Tp2.mono (G G' : Hp) (v : V) (p : Int × Int) (e : Same G G') (h : Tp2 G v p) : Tp2 G' v p := by
  obtain ⟨t, a, b⟩ := h
  exact ⟨t, a, e _ _ b⟩
theorem Tp3.mono (G G' : Hp) (v : V) (p : Int × Int × Int) (e : Same G G') (h : Tp3 G v p) : Tp3 G' v p := by
  obtain ⟨t, a, b⟩ := h
  exact ⟨t, a, e _ _ b⟩
def d2 (p : Int × Int) : PyData := .tuple [.int p.1, .int p.2]
theorem Tp2.dp {K : PySem.W.Frag} {G : Hp} (v : V) (p : Int × Int) (h : Tp2 G v p) : Dp K G v (d2 p) := by
  obtain ⟨t, rfl, b⟩ := h
  exact .tup (.inl (.inl b)) (.cons (.int _) (.cons (.int _) .nil))
theorem Tp3.dp {K : PySem.W.Frag} {G : Hp} (v : V) (p : Int × Int × Int) (h : Tp3 G v p) : Dp K G v (d3 p) := by
  obtain ⟨t, rfl, b⟩ := h
  exact .tup (.inl (.inl b)) (.cons (.int _) (.cons (.int _) (.cons (.int _) .nil)))
/-- what pair, what triple a value is -/
def key2 (G : Hp) : V → Int × Int
  | .ref t => match G t with
    | some (.tup [.int i, .int j]) => (i, j)
    | _ => (0, 0)
  | _ => (0, 0)
def key3 (G : Hp) : V → Int × Int × Int
  | .ref t => match G t with
    | some (.tup [.int i, .int j, .int k]) => (i, j, k)
    | _ => (0, 0, 0)
  | _ => (0, 0, 0)
theorem Tp2.key (G : Hp) (v : V) (p : Int × Int) (h : Tp2 G v p) : key2 G v = p := by
  obtain ⟨t, rfl, b⟩ := h
  unfold key2
  simp only [b]
theorem Tp3.key (G : Hp) (v : V) (p : Int × Int × Int) (h : Tp3 G v p) : key3 G v = p := by
  obtain ⟨t, rfl, b⟩ := h
  unfold key3
  simp only [b]
/-! ### sorted of triples -/
abbrev T3 := Int × Int × Int
def lt3 (p q : T3) : Bool := decide (p.1 < q.1 ∨ (p.1 = q.1 ∧ (p.2.1 < q.2.1 ∨ (p.2.1 = q.2.1 ∧ p.2.2 < q.2.2))))
theorem lt3_swo {α : Type} (k : α → T3) : SrtO.Swo fun x y => lt3 (k x) (k y) := by
  refine ⟨fun x y h => ?_, fun x y z h1 h2 => ?_⟩
  · simp only [lt3, decide_eq_true_eq, decide_eq_false_iff_not] at *
    omega
  · simp only [lt3, decide_eq_false_iff_not] at *
    omega
/-- a triple as an object of the machine -/
def Trip (h : Heap) (v : Value) (d : T3) : Prop := ∃ a o n t1 t2 t3, v = .ref a ∧ h.get? a = some o ∧ o.cls = .type "tuple" ∧ o.data = .seq #[.int d.1 t1, .int d.2.1 t2, .int d.2.2 t3] n
theorem Trip.at {h h' : Heap} {v : Value} {d : T3} (t : Trip h v d) (k : ∀ b o, h.get? b = some o → o.cls = .type "tuple" → h'.get? b = some o) : Trip h' v d := by
  obtain ⟨a, o, n, t1, t2, t3, e1, e2, e3, e4⟩ := t
  exact ⟨a, o, n, t1, t2, t3, e1, k a o e2 e3, e3, e4⟩
section
variable {prog : Program} {w : World} {A : Around} {s : Shared} {E : Value → Shared → Prop}
theorem lex_step {b fin : Bool} {Q : Bool → Shared → Prop} {x y : Int} {t u : Tok} {r : List (Value × Value)} {i : Nat} (h1 : x = y → PySem.W.KatLex prog w A b fin Q r (i + 1) s) (h2 : x ≠ y → Q (decide (x < y)) s) :
    PySem.W.KatLex prog w A b fin Q ((.int x t, .int y u) :: r) i s := by
  apply PySem.W.kat_cons
  apply SeqAt.EqAt.int_int x t y u prog w
  by_cases e : x = y
  · have q : (x == y) = true := by rw [e]; exact beq_self_eq_true y
    rw [q]
    exact PySem.W.kat_yes (h1 e)
  · have q : (x == y) = false := beq_eq_false_iff_ne.mpr e
    rw [q]
    apply PySem.W.kat_no
    cases (b && i == 0) with
    | true => exact oneLt_int (h2 e)
    | false => exact PySem.W.kat_one _ _ (PyProof.Rows.lt_int (Q := PySem.W.BoolBack Q) (h2 e))
theorem trip_lt {v u : Value} {p q : T3} {Q : Bool → Shared → Prop} (h1 : Trip s.heap v p) (h2 : Trip s.heap u q) (hq : Q (lt3 p q) s) : wpAny (model prog w) A (keyLt' (tuples' true) v u) Q E s := by
  obtain ⟨a, o, n, t1, t2, t3, rfl, e2, e3, e4⟩ := h1
  obtain ⟨b, o', n', u1, u2, u3, rfl, f2, f3, f4⟩ := h2
  apply PySem.W.kat_lt e2 e4 f2 f4
  refine lex_step (fun g1 => lex_step (fun g2 => lex_step (fun g3 => ?_) fun g3 => ?_) fun g2 => ?_) fun g1 => ?_
  · have z : lt3 p q = false := by simp only [lt3, decide_eq_false_iff_not]; omega
    rw [z] at hq
    exact PySem.W.kat_nil hq
  · have z : lt3 p q = decide (p.2.2 < q.2.2) := by simp only [lt3]; congr 1; apply propext; omega
    rw [z] at hq; exact hq
  · have z : lt3 p q = decide (p.2.1 < q.2.1) := by simp only [lt3]; congr 1; apply propext; omega
    rw [z] at hq; exact hq
  · have z : lt3 p q = decide (p.1 < q.1) := by simp only [lt3]; congr 1; apply propext; omega
    rw [z] at hq; exact hq
theorem trip_first {h : Heap} : ∀ {vs : List Value}, (∀ v ∈ vs, ∃ d, Trip h v d) → ∃ fs : List Value, PySem.W.KatTups h vs fs ∧ fs.length = vs.length ∧ ∀ f ∈ fs, ∃ x t, f = Value.int x t
  | [], _ => ⟨[], .nil, rfl, fun _ z => (nomatch z)⟩
  | v :: vs, hp => by
    obtain ⟨d, a, o, n, t1, t2, t3, rfl, e2, e3, e4⟩ := hp v List.mem_cons_self
    obtain ⟨fs, k1, k2, k3⟩ := trip_first (vs := vs) fun u hu => hp u (List.mem_cons_of_mem _ hu)
    refine ⟨_ :: fs, .cons e2 e3 e4 rfl k1, congrArg (· + 1) k2, fun f hf => ?_⟩
    cases hf with
    | head => exact ⟨_, _, rfl⟩
    | tail _ hf => exact k3 f hf
theorem trip_sort {a : Addr} {vs : List Value} {k : Value → T3} (h0 : 0 < vs.length) (hp : ∀ v ∈ vs, Trip s.heap v (k v)) (ha : ∀ o, s.heap.get? a = some o → o.cls ≠ .type "tuple") : SrtO.SortableO prog w A s a vs fun v u => lt3 (k v) (k u) := by
  intro h' keep
  have hp' : ∀ v ∈ vs, Trip h' v (k v) := fun v hm => (hp v hm).at fun b o e c => keep b o (fun z => ha o (by rw [← z]; exact e) c) e
  obtain ⟨fs, k1, k2, k3⟩ := trip_first fun v hv => ⟨_, hp' v hv⟩
  refine ⟨tuples' true, fun Q E hq => ?_, fun p q hm hm' => trip_lt (s := { s with heap := h' }) (hp' _ hm) (hp' _ hm') ⟨rfl, rfl⟩⟩
  refine PySem.W.kat_kind (T := .type "int") k1 (by omega) (fun f hf => ?_) (by rfl) ?_
  · obtain ⟨x, t, rfl⟩ := k3 f hf
    exact PySem.W.Looks.now
  · rw [show (Value.type "int" != Value.type "tuple") = true by decide +kernel]
    exact hq
end
/-- sorted(xs), xs a list of triples of numbers, any number of them -/
def rSorted3 (K : PySem.W.Frag) : List V → Hp → VK → Prop := fun vs H Q => ∃ (a : Addr) (xs : List V) (ts : List T3) (R : V → T3 → Prop), vs = [V.ref a] ∧ SqL K H a xs ∧ (∀ v x, R v x → Tp3 H v x) ∧ AllR R xs ts ∧
  ∀ ys us p, us.Perm ts → us.Pairwise (fun x y => lt3 y x = false) → AllR R ys us → H p = none → Q (.ref p) (upd H p (.lst ys))
theorem tp3_trip {X : Cx} {pins : List (Addr × Obj)} {σ : L2.St} {H : Hp} {s : Shared} (I : Inv X pins σ H s) {t : Addr} {d : T3} (h : H t = some (.tup [.int d.1, .int d.2.1, .int d.2.2])) : Trip s.heap (.ref t) d := by
  obtain ⟨_, its, r2, o, ho, hc, n, hd⟩ := I.hok _ _ h
  cases r2 with
  | cons r1 r2 =>
  cases r2 with
  | cons r2 r3 =>
  cases r3 with
  | cons r3 r4 =>
  cases r4
  obtain ⟨t1, rfl⟩ := r1
  obtain ⟨t2, rfl⟩ := r2
  obtain ⟨t3, rfl⟩ := r3
  exact ⟨t, o, n, t1, t2, t3, rfl, ho, hc, hd⟩
theorem cr_sortedT3 {X : Cx} : CallR X (.builtin "sorted") (rSorted3 X.K) := by
  intro pins s σ H vs us Q I r h
  obtain ⟨a, xs, ts, R, rfl, hs, hR, hx, q⟩ := h
  obtain ⟨its, rv, hl, hz⟩ := I.list hs
  have hkeyR : ∀ x ∈ xs, R x (key3 H x) := fun x hm => by
    obtain ⟨t, ht⟩ := AllR.mem hx hm
    rw [Tp3.key H x t (hR _ _ ht)]; exact ht
  have hkey : ∀ x ∈ xs, Tp3 H x (key3 H x) := fun x hm => hR _ _ (hkeyR x hm)
  obtain ⟨b1, b2⟩ := refs_back rv fun x hm => let ⟨t, e, _⟩ := hkey x hm; ⟨t, e⟩
  cases r with
  | cons r0 r1 =>
  cases r1
  cases r0
  have hin : ∀ v ∈ its, backV v ∈ xs := fun v hv => by rw [b1]; exact List.mem_map_of_mem hv
  have htr : ∀ v ∈ its, Trip s.heap v (key3 H (backV v)) := fun v hv => by
    obtain ⟨t, rfl⟩ := b2 v hv
    obtain ⟨t', e, ht⟩ := hkey _ (hin _ hv)
    cases e
    exact tp3_trip I ht
  refine SrtO.sorted_ord (lt3_swo fun v => key3 H (backV v)) hl.isList (by rw [← rv.length]; exact hz) (fun h2 h₁ a' ha kk => ?_) fun out hs1 hb => ?_
  · refine trip_sort (s := { s with heap := h₁ }) (by omega) (fun v hm => (htr v hm).at fun b o e _ => (kk b o e).2) fun o e c => ?_
    rw [show h₁.get? a' = some (seqObj "list" its.toArray 0) from ha] at e
    cases e
    exact absurd (Value.type.inj c) (by decide)
  · have ho : ∀ u ∈ out, ∃ a, u = Value.ref a := fun u hu => b2 u (hb.perm.mem_iff.mp hu)
    obtain ⟨n, hn⟩ := sortedAll_at s.heap its out.toArray
    have pm : (out.map backV).Perm xs := by rw [b1]; exact hb.perm.map backV
    have ln : (out.map backV).length ≤ sizeLine := by rw [pm.length_eq]; exact hz
    have ky : AllR R (out.map backV) ((out.map backV).map (key3 H)) := AllR.of fun v hv => hkeyR v (pm.mem_iff.mp hv)
    have et : xs.map (key3 H) = ts := AllR.fn (fun v x h => Tp3.key H v x (hR v x h)) hx
    have fresh : H (s.heap.objs.size + 1) = none := I.hok.fresh (Nat.le_succ _)
    refine ⟨.ref (s.heap.objs.size + 1), upd H (s.heap.objs.size + 1) (.lst (out.map backV)), I.laid (t' := s.toks) (fun b o e => sortedAll_old e) (Nat.le_succ _) ⟨ln, out, n, vals_back ho, hn⟩, rfl, q _ _ _ ?_ ?_ ky fresh⟩
    · rw [← et]; exact pm.map _
    · rw [List.map_map]
      exact List.pairwise_map.mpr hs1

/-- sorted(xs), xs a list of pairs of numbers, any number of them -/
def rSorted2 (K : PySem.W.Frag) : List V → Hp → VK → Prop := fun vs H Q => ∃ (a : Addr) (xs : List V) (ts : List (Int × Int)) (R : V → Int × Int → Prop), vs = [V.ref a] ∧ SqL K H a xs ∧ (∀ v x, R v x → Tp2 H v x) ∧ AllR R xs ts ∧
  ∀ ys us p, us.Perm ts → us.Pairwise (fun x y => SrtO.lexB y x = false) → AllR R ys us → H p = none → Q (.ref p) (upd H p (.lst ys))
theorem cr_sorted2 {X : Cx} : CallR X (.builtin "sorted") (rSorted2 X.K) := by
  intro pins s σ H vs us Q I r h
  obtain ⟨a, xs, ts, R, rfl, hs, hR, hx, q⟩ := h
  have hkeyR : ∀ x ∈ xs, R x (key2 H x) := fun x hm => by
    obtain ⟨t, ht⟩ := AllR.mem hx hm
    rw [Tp2.key H x t (hR _ _ ht)]; exact ht
  refine cr_sortedPO pins s σ H _ us Q I r ⟨a, xs, key2 H, rfl, hs, fun x hm => hR _ _ (hkeyR x hm), fun ys p srt stb np => ?_⟩
  have et : xs.map (key2 H) = ts := AllR.fn (fun v x h => Tp2.key H v x (hR v x h)) hx
  refine q ys (ys.map (key2 H)) p ?_ (List.pairwise_map.mpr srt) (AllR.of fun v hv => hkeyR v (stb.perm.mem_iff.mp hv)) np
  rw [← et]
  exact stb.perm.map _

abbrev kitSelf (K : PySem.W.Frag) (C : Addr) : Prop := PySem.W.kitOne K (.ref C) (.ref C) = some true
theorem kitSelf_ok {K : PySem.W.Frag} {C : Addr} : kitSelf K C := if_pos (beq_self_eq_true _)
end Dr

namespace Dr
open PySem PySem.Spec PyProof.Rows L2
/-! a list's slice with a step: what it holds is of the list, and no more than the list -/
theorem vals_picked {xs : List V} {us : List Value} (r : Vals xs us) : ∀ is : List Nat, ∃ ys, Vals ys (is.filterMap (us.toArray[·]?)) ∧ ys.length ≤ is.length ∧ ∀ y ∈ ys, y ∈ xs
  | [] => ⟨[], .nil, Nat.le_refl _, fun _ h => nomatch h⟩
  | i :: is => by
    obtain ⟨ys, h1, h2, h3⟩ := vals_picked r is
    cases e : xs[i]? with
    | none =>
      refine ⟨ys, ?_, by rw [List.length_cons]; omega, h3⟩
      rw [List.filterMap_cons, List.getElem?_toArray, r.none_of e]
      exact h1
    | some x =>
      obtain ⟨u, hu, ru⟩ := r.get e
      refine ⟨x :: ys, ?_, by rw [List.length_cons, List.length_cons]; omega, fun y hy => ?_⟩
      · rw [List.filterMap_cons, List.getElem?_toArray, hu]
        exact .cons ru h1
      · rcases List.mem_cons.mp hy with rfl | hy
        · exact List.mem_of_getElem? e
        · exact h3 y hy
/-- where a slice from a on, in steps of c, looks -/
theorem step_count {a c : Nat} (hc : 0 < c) (n : Nat) : (sliceRange (sliceBounds (some (a : Int)) none (some (c : Int)) n).1 (sliceBounds (some (a : Int)) none (some (c : Int)) n).2.1 (sliceBounds (some (a : Int)) none (some (c : Int)) n).2.2).length ≤ n := by
  have hp : (c : Int) > 0 := by omega
  unfold sliceRange sliceBounds
  simp only [Option.getD_some, if_pos hp]
  rw [List.length_map, List.length_range]
  rw [if_neg (show ¬ (a : Int) < 0 by omega)]
  by_cases h : max 0 (min (a : Int) n) < (n : Int)
  · rw [if_pos h]
    have := ceilDiv_le ((n : Int) - max 0 (min (a : Int) n)) c (by omega) (by omega)
    omega
  · rw [if_neg h]
    exact Nat.zero_le _
def tStep (K : PySem.W.Frag) (te : TE) : TE := fun σ H Q => te σ H fun x H1 => ∃ a xs, x = .ref a ∧ SqL K H1 a xs ∧ ∀ p ys, ys.length ≤ xs.length → (∀ y ∈ ys, y ∈ xs) → H1 p = none → Q (.ref p) (upd H1 p (.lst ys))
theorem pe_step {X : Cx} {e : Expr} {te : TE} {a c k1 k2 : Nat} {p1 p2 p3 pos : Pos} (hc : 0 < c) (he : PE X e te) :
    PE X (.Subscript e (.Slice (some (.Constant (.int (a : Int)) k1 p1)) none (some (.Constant (.int (c : Int)) k2 p2)) p3) pos) (tStep X.K te) := by
  refine ⟨fun pins s σ H Q I h => Subscript_ (thn (he.run pins s σ H _ I h) fun v s1 ⟨x, H1, I1, r1, q1⟩ => ?_)⟩
  obtain ⟨l, xs, rfl, hx, q⟩ := q1
  cases r1
  have first : PO X (some (.Constant (.int (a : Int)) k1 p1)) (tPart (tC (.int (a : Int)))) := po_some pe_int
  have third : PO X (some (.Constant (.int (c : Int)) k2 p2)) (tPart (tC (.int (c : Int)))) := po_some pe_int
  refine wpAny_Slice (thn (first.run pins s1 σ H1 (fun o H' => o = some (a : Int) ∧ H' = H1) I1 ⟨_, rfl, rfl, rfl⟩) fun w1 s2 ⟨o1, H2, I2, w1o, e1, e2⟩ => ?_)
  subst e1 e2
  refine thn (po_none.run pins s2 σ H2 (fun o H' => o = none ∧ H' = H2) I2 ⟨rfl, rfl⟩) fun w2 s3 ⟨o2, H3, I3, w2o, e3, e4⟩ => ?_
  subst e3 e4
  refine thn (third.run pins s3 σ H3 (fun o H' => o = some (c : Int) ∧ H' = H3) I3 ⟨_, rfl, rfl, rfl⟩) fun w3 s4 ⟨o3, H4, I4, w3o, e5, e6⟩ => ?_
  subst e5 e6
  have J : Inv X pins σ H4 { s4 with heap := s4.heap.push { cls := .type "slice", data := .fields #[w1, w2, w3] } } := I4.kept (t' := s4.toks) fun b ob z => Heap.get?_push_of_some _ z
  obtain ⟨us, r, hl, hz⟩ := J.list hx
  have hn := r.length
  refine tail_any (ops := [.ref l, .ref s4.heap.objs.size]) hl.isList.typeIs (PySem.slot_list_getitem.lookup) ?_ (by with_unfolding_all rfl)
  refine wpAny_getItem_list_slice hl.isList (Heap.IsSliceOf.new _ w1 w2 w3) w1o w2o w3o (by intro z; injection z with z; omega) ?_ (by rw [List.size_toArray]; omega)
  obtain ⟨ys, y1, y2, y3⟩ := vals_picked r (sliceRange (sliceBounds (some (a : Int)) none (some (c : Int)) us.toArray.size).1 (sliceBounds (some (a : Int)) none (some (c : Int)) us.toArray.size).2.1 (sliceBounds (some (a : Int)) none (some (c : Int)) us.toArray.size).2.2)
  have hcn := step_count (a := a) (c := c) hc us.toArray.size
  have hsz : us.toArray.size = xs.length := by rw [List.size_toArray, hn]
  refine ⟨.ref _, _, J.laid (t' := s4.toks) (o := .lst ys) (fun b ob z => Heap.get?_push_of_some _ z) (Nat.le_refl _) ?_, rfl, q _ ys (by omega) y3 (J.hok.fresh (Nat.le_refl _))⟩
  exact ⟨by omega, _, 0, y1, Heap.get?_push_size _ rfl⟩
/-- the state, in its named form -/
theorem gset {i : Nat} {x : V} {σ σ' : L2.St} {H : Hp} {Q : L2.St → Hp → Prop} (e : σ.set i (some x) = σ') (h : Q σ' H) : gName i x σ H Q := by
  subst e; exact h
end Dr

namespace Dr
open PySem PySem.Spec PyProof.Rows L2
/-! ### literals: a term that lays new data and nothing else -/
section
variable {K : PySem.W.Frag} {σ : L2.St}
def LitE (K : PySem.W.Frag) (σ : L2.St) (te : TE) (d : PyData) : Prop := ∀ (G H : Hp) (Q : V → Hp → Prop), Same G H → (∀ v G' H', Gr G H G' H' → Dp K G' v d → Q v H') → te σ H Q
def LitA (K : PySem.W.Frag) (σ : L2.St) (ta : TA) (ds : List PyData) : Prop := ∀ (G H : Hp) (Q : List V → Hp → Prop), Same G H → (∀ vs G' H', Gr G H G' H' → DpAll K G' vs ds → Q vs H') → ta σ H Q
theorem lit_int {i : Int} : LitE K σ (tC (.int i)) (.int i) := fun G H Q e q => q _ G H (Gr.refl e) (.int i)
theorem lit_bl {b : Bool} : LitE K σ (tC (.bl b)) (.bool b) := fun G H Q e q => q _ G H (Gr.refl e) (.bl b)
theorem lit_neg {i : Int} : LitE K σ (tUn (rU fun i => V.int (-i)) (tC (.int i))) (.int (-i)) := fun G H Q e q => ⟨i, rfl, q _ G H (Gr.refl e) (.int (-i))⟩
theorem lit_var {i : Nat} {n : Int} (h : σ[i]? = some (some (.int n))) : LitE K σ (tVar i) (.int n) := fun G H Q e q => ⟨_, h, q _ G H (Gr.refl e) (.int n)⟩
theorem lit_less {i : Nat} {n m : Int} (h : σ[i]? = some (some (.int n))) : LitE K σ (tOp (rI0 fun i j => V.int (i - j)) (tVar i) (tC (.int m))) (.int (n - m)) :=
  fun G H Q e q => ⟨_, h, _, _, rfl, rfl, q _ G H (Gr.refl e) (.int (n - m))⟩
theorem lit_nil : LitA K σ tNil [] := fun G H Q e q => q [] G H (Gr.refl e) .nil
theorem lit_cons {te : TE} {ta : TA} {d : PyData} {ds : List PyData} (h1 : LitE K σ te d) (h2 : LitA K σ ta ds) : LitA K σ (tCons te ta) (d :: ds) := fun G H Q e q =>
  h1 G H _ e fun v G1 H1 g1 d1 => h2 G1 H1 _ g1.s fun vs G2 H2 g2 d2 => q (v :: vs) G2 H2 (g1.trans g2) (.cons (Dp.mono g2.g _ _ d1) d2)
/-- a list, owned -/
theorem lit_own {ta : TA} {ds : List PyData} (h : LitA K σ ta ds) (hl : ds.length ≤ 1000) {G H : Hp} {Q : V → Hp → Prop} (e : Same G H) (q : RtL K G H ds Q) : tLst ta σ H Q :=
  h G H _ e fun vs G1 H1 g1 d1 => ⟨Nat.le_trans (Nat.le_of_eq (DpAll.len d1)) (Nat.le_trans hl (by decide)), fun p hp => q p vs G1 _ (g1.trans (Gr.out g1.s hp)) (g1.h.free hp) (g1.s.free hp) upd_same d1⟩
theorem lit_lst {ta : TA} {ds : List PyData} (h : LitA K σ ta ds) (hl : ds.length ≤ 1000) : LitE K σ (tLst ta) (.list ds) := fun G H Q e q =>
  h G H _ e fun vs G1 H1 g1 d1 => ⟨Nat.le_trans (Nat.le_of_eq (DpAll.len d1)) (Nat.le_trans hl (by decide)), fun p hp =>
    have g2 := Gr.new (o := HO.lst vs) g1.s hp
    q _ _ _ (g1.trans g2) (.lst (.inl (.inl upd_same)) (Dp.monoAll g2.g _ _ d1))⟩
theorem lit_tup {ta : TA} {ds : List PyData} (h : LitA K σ ta ds) (hl : ds.length ≤ 1000) : LitE K σ (tTup ta) (.tuple ds) := fun G H Q e q =>
  h G H _ e fun vs G1 H1 g1 d1 => ⟨Nat.le_trans (Nat.le_of_eq (DpAll.len d1)) (Nat.le_trans hl (by decide)), fun p hp =>
    have g2 := Gr.new (o := HO.tup vs) g1.s hp
    q _ _ _ (g1.trans g2) (.tup (.inl (.inl upd_same)) (Dp.monoAll g2.g _ _ d1))⟩
/-- cases = cases + [..] -/
theorem lit_cat {i : Nat} {G0 H0 G H : Hp} {l : Addr} {xs : List V} {ds es : List PyData} {ta : TA} {Q : V → Hp → Prop} (s : S K G0 H0 [] [(l, .lst xs)] G H) (hd : DpAll K G xs ds) (hσ : σ[i]? = some (some (.ref l))) (h : LitA K σ ta es) (h1 : ds.length ≤ 1000) (h2 : es.length ≤ 1000)
    (q : ∀ l2 ys G' H', S K G0 H0 [] [(l2, .lst ys)] G' H' → DpAll K G' ys (ds ++ es) → Q (.ref l2) H') : tOp rCat (tVar i) (tLst ta) σ H Q := by
  refine ⟨_, hσ, lit_own h h2 s.same fun l2 ys G2 H2 g2 h0 hg hh hy => ?_⟩
  have s2 := s.grow g2
  have hx := Dp.monoAll g2.g _ _ hd
  refine ⟨l, l2, xs, ys, rfl, rfl, s2.o 0 rfl, hh, ?_, fun p hp => ?_⟩
  · rw [DpAll.len hx, DpAll.len hy]
    exact Nat.le_trans (Nat.add_le_add h1 h2) (by decide)
  · exact q p (xs ++ ys) G2 _ (s2.only.new (o := .lst (xs ++ ys)) hp) (DpAll.append hx hy)
end
theorem seqAsg {te : TE} {g : TG} {b : TS} {D : Ends} {σ : L2.St} {H : Hp} (h : te σ H fun x H1 => g x σ H1 fun σ2 H2 => b D σ2 H2) : tSeq (tAsg te g) b D σ H := h
theorem inNx {u : TS} {D : Ends} {rt : VK} {bk ct : L2.St → Hp → Prop} {σ : L2.St} {H : Hp} (h : u D σ H) : ({ nx := u D, rt := rt, bk := bk, ct := ct } : Ends).nx σ H := h
/-- for x in [..] -/
theorem forLit {K : PySem.W.Frag} {ta : TA} {ds : List PyData} {g : TG} {tb u : TS} {D : Ends} {σ : L2.St} {G H : Hp} (hl : LitA K σ ta ds) (hn : ds.length ≤ 1000) (e : Same G H)
    (h : ∀ l xs G' H', Gr G H G' H' → SqL K G' l xs → DpAll K G' xs ds → ∃ W : Nat → Nat → L2.St → Hp → Prop, (∃ m, W 0 m σ H') ∧ ∀ i m σ H, W i m σ H →
      ((Itl K l).stop i H ∧ ({ D with nx := u D } : Ends).nx σ H) ∨ ((Itl K l).go i H ∧ ∃ N : L2.St → Hp → Prop, (∀ σ' H', N σ' H' → ∃ m', m' < m ∧ W (i + 1) m' σ' H') ∧ ∀ x H', (Itl K l).yld i H x H' → g x σ H' fun σ2 H2 => tb { ({ D with nx := u D } : Ends) with nx := N, ct := N, bk := ({ D with nx := u D } : Ends).nx } σ2 H2)) :
    tSeq (tFor (iList K (tLst ta)) g tb) u D σ H := by
  unfold tSeq tFor iList
  refine lit_lst hl hn G H _ e fun v G' H' g2 d2 => ?_
  obtain ⟨l, xs, rfl, hq, hxs⟩ := dp_list d2
  exact ⟨l, rfl, ⟨_, g2.s.seq hq⟩, h l xs G' H' g2 hq hxs⟩
end Dr

namespace Dr
open PySem PySem.Spec PyProof.Rows L2
/-! ### what is raised: a class of the program's own -/
structure ErrC (K : PySem.W.Frag) (mg : Str → Option Value) (n : Str) (C : Addr) : Prop where
  g : mg n = some (.ref C)
  x : PySem.W.excIn K C [.type "ValueError", .type "Exception", .type "BaseException", .type "object"] "ValueError.__new__" = true
  k : PySem.W.keepIn K (.ref C) = true
  b : PySem.W.subIn K (.ref C) (.type "BaseException") = some true
  t : PySem.W.typeIn K (.ref C) = some (.type "type")
  c : ExcC K C
section
variable {K : PySem.W.Frag}
theorem exm_own {X C : Addr} (h1 : PySem.W.subIn K (.ref C) (.type "BaseException") = some true) (hd : PySem.W.hasDictIn K C = true) (ht : PySem.W.typeIn K (.ref C) = some (.type "type")) (h : PySem.W.subIn K (.ref X) (.ref C) = some true) : PySem.W.exmOne K (.ref X) (.ref C) = some true := PySem.W.exm_ref h1 hd ht h
theorem kit_own {X C : Addr} {r : Bool} (hd : PySem.W.hasDictIn K C = true) (ht : PySem.W.typeIn K (.ref C) = some (.type "type")) (hs : PySem.W.subIn K (.ref C) (.ref C) = some true) (h : PySem.W.subIn K (.ref X) (.ref C) = some r) : PySem.W.kitOne K (.ref X) (.ref C) = some r := by
  unfold PySem.W.kitOne
  by_cases z : X = C
  · subst z
    rw [hs] at h
    cases h
    rw [if_pos (beq_self_eq_true _)]
  · rw [if_neg (fun q => z (Value.ref.inj (beq_iff_eq.mp q)))]
    obtain ⟨cd, hc, _⟩ := PySem.W.any_some hd
    have e2 : ((PySem.W.clsIn K C).isSome && PySem.W.typeIn K (.ref C) == some (.type "type")) = true := by rw [hc, ht] <;> rfl
    show (if ((PySem.W.clsIn K C).isSome && PySem.W.typeIn K (.ref C) == some (.type "type")) = true then PySem.W.subIn K (.ref X) (.ref C) else none) = some r
    rw [if_pos e2]
    exact h
theorem kit_val {X : Addr} (h : PySem.W.subIn K (.ref X) (.type "ValueError") = some true) : PySem.W.kitOne K (.ref X) (.type "ValueError") = some true := by
  unfold PySem.W.kitOne
  have hne : ¬ (Value.ref X == Value.type "ValueError") = true := fun q => by
    have z := beq_iff_eq.mp q
    cases z
  rw [if_neg hne]
  show (if PySem.W.kitMeta "ValueError" = true then PySem.W.subIn K (.ref X) (.type "ValueError") else none) = some true
  rw [if_pos (by decide +kernel)]
  exact h
/-- isinstance(e, c), whatever the suite holds -/
def rIsE2 (K : PySem.W.Frag) (a : Addr) (cls : Value) (d : Option Addr) : List V → Hp → VK → Prop := fun xs H Q => ∃ D : Addr, cls = .ref D ∧ d = none ∧ ExcC K D ∧ rIsE K D a xs H Q
theorem call_isE2 {X : Cx} {a : Addr} {cls : Value} {d : Option Addr} {oe : Obj} {pn : List (Addr × Obj)} (hz : Zc cls d oe) (hf : ∃ vs, oe.data = .fields vs) : CallR (X.suite a ((a, oe) :: pn)) (.builtin "isinstance") (rIsE2 X.K a cls d) := by
  intro pins s σ H xs us Q I r h
  obtain ⟨D, rfl, rfl, C, h⟩ := h
  exact call_isE C hz hf pins s σ H xs us Q I r h
/-- what leaves a def -/
def RtX (G H : Hp) (C : Addr) (E : XK) : Prop := ∀ G' H', Gr G H G' H' → E (.ref C) none H'
theorem RtX.grow {G H G' H' : Hp} {C : Addr} {E : XK} (q : RtX G H C E) (g : Gr G H G' H') : RtX G' H' C E := fun G2 H2 g2 => q G2 H2 (g.trans g2)
/-! ### data of any kind -/
def tyD : PyData → String
  | .none => "NoneType" | .bool _ => "bool" | .int _ => "int" | .str _ => "str" | .list _ => "list" | .tuple _ => "tuple" | .dict _ => "dict"
theorem dp_tyx {H : Hp} {v : V} {d : PyData} (h : Dp K H v d) : TyX K H v (.type (tyD d)) := by
  cases h with
  | non => exact .base .non
  | bl b => exact .base (.bl b)
  | int i => exact .base (.int i)
  | str x => exact .base (.str x)
  | lst hs ha => exact tyx_list hs
  | tup hs ha => exact tyx_tup hs
def isNum : PyData → Bool
  | .int _ => true | _ => false
def isLst : PyData → Bool
  | .list _ => true | _ => false
def isTup : PyData → Bool
  | .tuple _ => true | _ => false
def isIntB : PyData → Bool
  | .int _ => true | .bool _ => true | _ => false
def isBoolB : PyData → Bool
  | .bool _ => true | _ => false
theorem kit_list (d : PyData) : PySem.W.kitOne K (.type (tyD d)) (.type "list") = some (isLst d) := by
  exact kit_ty (by cases d <;> rfl)
theorem kit_tup (d : PyData) : PySem.W.kitOne K (.type (tyD d)) (.type "tuple") = some (isTup d) := by
  exact kit_ty (by cases d <;> rfl)
theorem kit_int (d : PyData) : PySem.W.kitOne K (.type (tyD d)) (.type "int") = some (isIntB d) := by
  exact kit_ty (by cases d <;> rfl)
theorem kit_bool (d : PyData) : PySem.W.kitOne K (.type (tyD d)) (.type "bool") = some (isBoolB d) := by
  exact kit_ty (by cases d <;> rfl)
def eSize : PyData → Bool
  | .int i => decide (2 ≤ i) | _ => false
def eFig (size : Int) : PyData → Bool
  | .int i => decide (0 ≤ i) && decide (i < size) | _ => false
def eRow (size : Int) : PyData → Bool
  | .list ds => ds.all (eFig size) | _ => false
def eDeed (n : Int) : PyData → Bool
  | .tuple [.int a, .int b, .int c] => DM.isDeed n (a, b, c) | _ => false
def eDeeds (n : Int) : PyData → Bool
  | .list ds => ds.all (eDeed n) | _ => false
def shortD : PyData → Prop
  | .list ds => ds.length ≤ 1000 | _ => True
theorem eRow_ints {size : Int} {row : List Int} (h : DM.InR size row) : eRow size (dI row) = true := by
  show (row.map PyData.int).all (eFig size) = true
  rw [List.all_map, List.all_eq_true]
  intro x hx
  obtain ⟨h1, h2⟩ := h x hx
  show (decide (0 ≤ x) && decide (x < size)) = true
  rw [decide_eq_true h1, decide_eq_true h2]; rfl
theorem lit_non {σ : L2.St} : LitE K σ (tC .non) .none := fun G H Q e q => q _ G H (Gr.refl e) .non
theorem lit_str {σ : L2.St} {x : Str} : LitE K σ (tC (.str x)) (.str x) := fun G H Q e q => q _ G H (Gr.refl e) (.str x)
theorem lit_sub {σ : L2.St} {te : TE} {n m : Int} (h : LitE K σ te (.int n)) : LitE K σ (tOp (rI0 fun i j => V.int (i - j)) te (tC (.int m))) (.int (n - m)) := fun G H Q e q =>
  h G H _ e fun v G1 H1 g1 d1 => by
    cases dp_int d1
    exact ⟨_, _, rfl, rfl, q _ G1 H1 g1 (.int _)⟩
theorem lit_add2 {σ : L2.St} {te tf : TE} {n m : Int} (h : LitE K σ te (.int n)) (h2 : LitE K σ tf (.int m)) : LitE K σ (tOp (rI0 fun i j => V.int (i + j)) te tf) (.int (n + m)) := fun G H Q e q =>
  h G H _ e fun v G1 H1 g1 d1 => h2 G1 H1 _ g1.s fun u G2 H2 g2 d2 => by
    cases dp_int d1
    cases dp_int d2
    exact ⟨_, _, rfl, rfl, q _ G2 H2 (g1.trans g2) (.int _)⟩
theorem lit_sub2 {σ : L2.St} {te tf : TE} {n m : Int} (h : LitE K σ te (.int n)) (h2 : LitE K σ tf (.int m)) : LitE K σ (tOp (rI0 fun i j => V.int (i - j)) te tf) (.int (n - m)) := fun G H Q e q =>
  h G H _ e fun v G1 H1 g1 d1 => h2 G1 H1 _ g1.s fun u G2 H2 g2 d2 => by
    cases dp_int d1
    cases dp_int d2
    exact ⟨_, _, rfl, rfl, q _ G2 H2 (g1.trans g2) (.int _)⟩
/-- [..][e], the item known -/
theorem litIx {σ : L2.St} {ta : TA} {te : TE} {ds : List PyData} {d : PyData} {j : Nat} {G H : Hp} {Q : VK} (hl : LitA K σ ta ds) (hn : ds.length ≤ 1000) (e : Same G H) (hj : ds[j]? = some d) (hte : ∀ (H : Hp) (R : VK), R (.int j) H → te σ H R)
    (q : ∀ v G' H', Gr G H G' H' → Dp K G' v d → Q v H') : tOp (rIxL K) (tLst ta) te σ H Q := by
  refine lit_lst hl hn G H _ e fun v G1 H1 g1 d1 => hte H1 _ ?_
  obtain ⟨l, xs, rfl, hq, hxs⟩ := dp_list d1
  obtain ⟨u, hu, du⟩ := DpAll.get hxs hj
  exact ⟨l, xs, _, u, rfl, rfl, g1.s.seq hq, atI_nat hu, q u G1 H1 g1 du⟩
theorem lit_eq {σ : L2.St} {te : TE} {n m : Int} (h : LitE K σ te (.int n)) (e : n = m) : LitE K σ te (.int m) := e ▸ h
end
end Dr

namespace Dial
open PySem PySem.Spec PyProof.Rows L2 Dr DM
variable {P : Program} {w : World} {K : PySem.W.Frag} {mg : Str → Option Value} {base : Heap}
theorem small {n : Nat} (h : n ≤ 100000) : n < sizeLine := Nat.lt_of_le_of_lt h (by decide)
theorem at_int {C : List Int} {i : Int} (h0 : 0 ≤ i) (h1 : i < C.length) : atI (C.map V.int) i = some (.int (C.getD i.toNat 0)) := by
  have e : i = ((i.toNat : Nat) : Int) := by omega
  rw [e]
  refine atI_nat ?_
  rw [List.getElem?_map, List.getElem?_eq_getElem (show i.toNat < C.length by omega), List.getD_eq_getElem?_getD, Int.toNat_natCast, List.getElem?_eq_getElem (show i.toNat < C.length by omega)]
  rfl
theorem ixN_nn {n : Nat} {i : Int} (h0 : 0 ≤ i) (h1 : i < n) : ixN n i = some i.toNat := by
  unfold ixN
  rw [if_pos h0, if_pos h1]
theorem sumT {l : List Int} {i : Nat} {c : Int} (h : l[i]? = some c) : (l.take (i + 1)).sum = (l.take i).sum + c := sum_take h
theorem runBy_at (size : Int) : ∀ (row cs : List Int) (far : Int) (i : Nat) (f c : Int), row[i]? = some f → cs[i]? = some c → (runBy size far row cs)[i]? = some ((f + (far + (cs.take i).sum + c)) % size)
  | [], _, _, _, _, _, h, _ => by simp at h
  | _ :: _, [], _, _, _, _, _, h => by simp at h
  | a :: r, b :: cs, far, 0, f, c, h1, h2 => by
    cases Option.some.inj h1
    cases Option.some.inj h2
    show some ((a + (far + b)) % size) = _
    simp
  | a :: r, b :: cs, far, i + 1, f, c, h1, h2 => by
    have ih := runBy_at size r cs (far + b) i f c h1 h2
    show (runBy size (far + b) r cs)[i]? = _
    rw [ih, List.take_succ_cons, List.sum_cons]
    congr 4
    omega
theorem int_set {C : List Int} {j : Nat} {x : Int} : (C.map V.int).set j (.int x) = (C.set j x).map V.int := by rw [List.map_set]
theorem take_map {α : Type} {f : α → V} {l : List α} {i : Nat} {x : α} (h : l[i]? = some x) : (l.take i).map f ++ [f x] = (l.take (i + 1)).map f := by
  rw [List.take_add_one, h, List.map_append]; rfl
theorem RtL.grow {K : PySem.W.Frag} {G H G' H' : Hp} {ds : List PyData} {Q : VK} (q : RtL K G H ds Q) (g : Gr G H G' H') : RtL K G' H' ds Q :=
  fun l xs G2 H2 g2 h0 hg hh hd => q l xs G2 H2 (g.trans g2) (g.h.free h0) hg hh hd
theorem Rt.grow {K : PySem.W.Frag} {G H G' H' : Hp} {d : PyData} {Q : VK} (q : Rt K G H d Q) (g : Gr G H G' H') : Rt K G' H' d Q :=
  fun v G2 H2 g2 hd => q v G2 H2 (g.trans g2) hd
theorem RtV.grow {G H G' H' : Hp} {v : V} {Q : VK} (q : RtV G H v Q) (g : Gr G H G' H') : RtV G' H' v Q :=
  fun G2 H2 g2 => q G2 H2 (g.trans g2)
theorem small3 {n : Nat} (h : n ≤ 100000) : n ≤ sizeLine := Nat.le_trans h (by decide)
theorem S.tupO {K : PySem.W.Frag} {G0 H0 G H : Hp} {Γ : List (V × PyData)} {Λ : List (Addr × HO)} (s : S K G0 H0 Γ Λ G H) {p : Addr} {o : HO} (h : H p = none) : S K G0 H0 Γ Λ G (upd H p o) := s.grow (Gr.out s.same h)
theorem div_ok {i j : Int} (h : 0 < j) (hb : j < 2 ^ 120) : CDivW i j := wide_div (b := 120) h (by omega) (by decide) (by decide)
theorem mul_small {i j : Int} (h1 : -(2 ^ 120) < i) (h2 : i < 2 ^ 120) (h3 : -(2 ^ 120) < j) (h4 : j < 2 ^ 120) : IntMulOk i j := mulOk_pow (a := 120) (b := 120) (by omega) (by omega) (by decide) (by decide) (by decide)
def optI : Option (List Int) → PyData
  | none => .none
  | some xs => dI xs
theorem getD_take {xs : List Int} {size st : Int} {a k : Nat} (h : a + k < xs.length) : (turnRange size st xs a k).getD (a + k) 0 = xs.getD (a + k) 0 := by
  rw [List.getD_eq_getElem?_getD, turnRange_get, List.getD_eq_getElem?_getD]
  cases xs[a + k]? with
  | none => rfl
  | some x => simp
theorem cut_ints_hi (ns : List Int) (k : Nat) : cutV (ns.map V.int) none (some (k : Int)) = (ns.take k).map V.int := by rw [cut_hi, List.map_take]
theorem cut_last (ns : List Int) (z : Int) : cutV (ns.map V.int ++ [.int z]) none (some (-1)) = ns.map V.int := by
  unfold cutV
  rw [HT.sIx_none]
  have e : HT.sIx (ns.map V.int ++ [V.int z]).length (ns.map V.int ++ [V.int z]).length (some (-1)) = ns.length := by
    unfold HT.sIx
    dsimp only
    rw [if_pos (by decide), List.length_append, List.length_map]
    show ((-1 : Int) + ((ns.length + 1 : Nat) : Int)).toNat = ns.length
    omega
  rw [e]
  show ((ns.map V.int ++ [V.int z]).drop 0).take (ns.length - 0) = ns.map V.int
  rw [List.drop_zero, Nat.sub_zero]
  exact List.take_left' (List.length_map ..)
/-- one turn's facts, plain -/
theorem turn_ok {size : Int} {row : List Int} {ds : List Deed} (hin : InR size row) (hv : ∀ d ∈ ds, Okd row.length d) : optI (lawTurned size row ds) = dI (turnedBy size row ds) := by
  rw [lawTurned_ok hin hv]; rfl
end Dial

namespace Dial
open PySem PySem.Spec PyProof.Rows L2 Dr DM
def topS (i : Nat) : Stmt := PySem.Challenge.pw_dialrow_k06_refused.main.body.getD i (.Pass ⟨0, 0, 0, 0⟩)
structure Dfn (K : PySem.W.Frag) (mg : Str → Option Value) (x : Str) (st : Stmt) (f : Addr) (fd : FuncData) (ps : List Str) : Prop where
  F : Fun K x x st f fd
  g : mg x = some (.ref f)
  b : Binds K fd ps []
abbrev s_is_number : Stmt := topS 7
abbrev N_is_number : List Str := ["thing"]
theorem sc_is_number : FnScope N_is_number ["thing"] (defScope s_is_number) := ⟨rfl, rfl, rfl, by decide +kernel, rfl, by decide +kernel, by decide +kernel⟩
abbrev s_asked_size : Stmt := topS 8
abbrev N_asked_size : List Str := ["size"]
theorem sc_asked_size : FnScope N_asked_size ["size"] (defScope s_asked_size) := ⟨rfl, rfl, rfl, by decide +kernel, rfl, by decide +kernel, by decide +kernel⟩
abbrev s_asked_row : Stmt := topS 9
abbrev N_asked_row : List Str := ["size", "row", "figure"]
theorem sc_asked_row : FnScope N_asked_row ["size", "row"] (defScope s_asked_row) := ⟨rfl, rfl, rfl, by decide +kernel, rfl, by decide +kernel, by decide +kernel⟩
abbrev s_asked_two : Stmt := topS 10
abbrev N_asked_two : List Str := ["size", "one", "other"]
theorem sc_asked_two : FnScope N_asked_two ["size", "one", "other"] (defScope s_asked_two) := ⟨rfl, rfl, rfl, by decide +kernel, rfl, by decide +kernel, by decide +kernel⟩
abbrev s_is_deed : Stmt := topS 11
abbrev N_is_deed : List Str := ["many", "first", "end", "steps"]
theorem sc_is_deed : FnScope N_is_deed ["many", "first", "end", "steps"] (defScope s_is_deed) := ⟨rfl, rfl, rfl, by decide +kernel, rfl, by decide +kernel, by decide +kernel⟩
abbrev s_asked_deeds : Stmt := topS 12
abbrev N_asked_deeds : List Str := ["many", "deeds", "deed", "one"]
theorem sc_asked_deeds : FnScope N_asked_deeds ["many", "deeds"] (defScope s_asked_deeds) := ⟨rfl, rfl, rfl, by decide +kernel, rfl, by decide +kernel, by decide +kernel⟩
abbrev s_turned_by : Stmt := topS 13
abbrev N_turned_by : List Str := ["size", "row", "deeds", "changes", "first", "end", "steps", "found", "far", "figure", "change", "place"]
theorem sc_turned_by : FnScope N_turned_by ["size", "row", "deeds"] (defScope s_turned_by) := ⟨rfl, rfl, rfl, by decide +kernel, rfl, by decide +kernel, by decide +kernel⟩
abbrev s_turned : Stmt := topS 15
abbrev N_turned : List Str := ["size", "row", "deeds"]
theorem sc_turned : FnScope N_turned ["size", "row", "deeds"] (defScope s_turned) := ⟨rfl, rfl, rfl, by decide +kernel, rfl, by decide +kernel, by decide +kernel⟩
abbrev s_gaps_of : Stmt := topS 16
abbrev N_gaps_of : List Str := ["size", "one", "other", "found", "ahead", "mine", "theirs"]
theorem sc_gaps_of : FnScope N_gaps_of ["size", "one", "other"] (defScope s_gaps_of) := ⟨rfl, rfl, rfl, by decide +kernel, rfl, by decide +kernel, by decide +kernel⟩
abbrev s_grown : Stmt := topS 21
abbrev N_grown : List Str := ["size", "gaps", "many", "order", "found", "gap", "place"]
theorem sc_grown : FnScope N_grown ["size", "gaps"] (defScope s_grown) := ⟨rfl, rfl, rfl, by decide +kernel, rfl, by decide +kernel, by decide +kernel⟩
abbrev s_best : Stmt := topS 23
abbrev N_best : List Str := ["size", "one", "other", "changes", "mark"]
theorem sc_best : FnScope N_best ["size", "one", "other"] (defScope s_best) := ⟨rfl, rfl, rfl, by decide +kernel, rfl, by decide +kernel, by decide +kernel⟩
abbrev s_apart : Stmt := topS 24
abbrev N_apart : List Str := ["size", "one", "other", "changes", "mark", "change"]
theorem sc_apart : FnScope N_apart ["size", "one", "other"] (defScope s_apart) := ⟨rfl, rfl, rfl, by decide +kernel, rfl, by decide +kernel, by decide +kernel⟩
abbrev s_level : Stmt := topS 25
abbrev N_level : List Str := ["size", "row", "figure"]
theorem sc_level : FnScope N_level ["size", "row"] (defScope s_level) := ⟨rfl, rfl, rfl, by decide +kernel, rfl, by decide +kernel, by decide +kernel⟩
abbrev s__law_ask : Stmt := topS 27
abbrev N__law_ask : List Str := ["_law_door", "_law_size", "_law_one", "_law_other"]
theorem sc__law_ask : FnScope N__law_ask ["_law_door", "_law_size", "_law_one", "_law_other"] (defScope s__law_ask) := ⟨rfl, rfl, rfl, by decide +kernel, rfl, by decide +kernel, by decide +kernel⟩
abbrev s__law_rows_asked : Stmt := topS 28
abbrev N__law_rows_asked : List Str := ["_law_which", "_law_more", "_law_bad", "_law_door", "_law_dial"]
theorem sc__law_rows_asked : FnScope N__law_rows_asked ["_law_which", "_law_more"] (defScope s__law_rows_asked) := ⟨rfl, rfl, rfl, by decide +kernel, rfl, by decide +kernel, by decide +kernel⟩
abbrev s__law_deeds_asked : Stmt := topS 29
abbrev N__law_deeds_asked : List Str := ["_law_which", "_law_more", "_law_bad"]
theorem sc__law_deeds_asked : FnScope N__law_deeds_asked ["_law_which", "_law_more"] (defScope s__law_deeds_asked) := ⟨rfl, rfl, rfl, by decide +kernel, rfl, by decide +kernel, by decide +kernel⟩
abbrev s__law_told : Stmt := topS 30
abbrev N__law_told : List Str := ["_law_kind", "_law_which", "_law_more", "_law_bad", "_law_one", "_law_other", "error", "_law_found", "_law_dial"]
theorem sc__law_told : FnScope N__law_told ["_law_kind", "_law_which", "_law_more"] (defScope s__law_told) := ⟨rfl, rfl, rfl, by decide +kernel, rfl, by decide +kernel, by decide +kernel⟩
abbrev s_law : Stmt := topS 31
abbrev N_law : List Str := ["_law_script", "_law_cell", "_law_kind", "_law_due", "_law_at"]
theorem sc_law : FnScope N_law ["_law_script"] (defScope s_law) := ⟨rfl, rfl, rfl, by decide +kernel, rfl, by decide +kernel, by decide +kernel⟩

structure Txt (K : PySem.W.Frag) (mg : Str → Option Value) where
  f_is_number : Addr
  fd_is_number : FuncData
  D_is_number : Dfn K mg "is_number" s_is_number f_is_number fd_is_number ["thing"]
  f_asked_size : Addr
  fd_asked_size : FuncData
  D_asked_size : Dfn K mg "asked_size" s_asked_size f_asked_size fd_asked_size ["size"]
  f_asked_row : Addr
  fd_asked_row : FuncData
  D_asked_row : Dfn K mg "asked_row" s_asked_row f_asked_row fd_asked_row ["size", "row"]
  f_asked_two : Addr
  fd_asked_two : FuncData
  D_asked_two : Dfn K mg "asked_two" s_asked_two f_asked_two fd_asked_two ["size", "one", "other"]
  f_is_deed : Addr
  fd_is_deed : FuncData
  D_is_deed : Dfn K mg "is_deed" s_is_deed f_is_deed fd_is_deed ["many", "first", "end", "steps"]
  f_asked_deeds : Addr
  fd_asked_deeds : FuncData
  D_asked_deeds : Dfn K mg "asked_deeds" s_asked_deeds f_asked_deeds fd_asked_deeds ["many", "deeds"]
  f_turned_by : Addr
  fd_turned_by : FuncData
  D_turned_by : Dfn K mg "turned_by" s_turned_by f_turned_by fd_turned_by ["size", "row", "deeds"]
  f_turned : Addr
  fd_turned : FuncData
  D_turned : Dfn K mg "turned" s_turned f_turned fd_turned ["size", "row", "deeds"]
  f_gaps_of : Addr
  fd_gaps_of : FuncData
  D_gaps_of : Dfn K mg "gaps_of" s_gaps_of f_gaps_of fd_gaps_of ["size", "one", "other"]
  f_grown : Addr
  fd_grown : FuncData
  D_grown : Dfn K mg "grown" s_grown f_grown fd_grown ["size", "gaps"]
  f_best : Addr
  fd_best : FuncData
  D_best : Dfn K mg "best" s_best f_best fd_best ["size", "one", "other"]
  f_apart : Addr
  fd_apart : FuncData
  D_apart : Dfn K mg "apart" s_apart f_apart fd_apart ["size", "one", "other"]
  f_level : Addr
  fd_level : FuncData
  D_level : Dfn K mg "level" s_level f_level fd_level ["size", "row"]
  f__law_ask : Addr
  fd__law_ask : FuncData
  D__law_ask : Dfn K mg "_law_ask" s__law_ask f__law_ask fd__law_ask ["_law_door", "_law_size", "_law_one", "_law_other"]
  f__law_rows_asked : Addr
  fd__law_rows_asked : FuncData
  D__law_rows_asked : Dfn K mg "_law_rows_asked" s__law_rows_asked f__law_rows_asked fd__law_rows_asked ["_law_which", "_law_more"]
  f__law_deeds_asked : Addr
  fd__law_deeds_asked : FuncData
  D__law_deeds_asked : Dfn K mg "_law_deeds_asked" s__law_deeds_asked f__law_deeds_asked fd__law_deeds_asked ["_law_which", "_law_more"]
  f__law_told : Addr
  fd__law_told : FuncData
  D__law_told : Dfn K mg "_law_told" s__law_told f__law_told fd__law_told ["_law_kind", "_law_which", "_law_more"]
  f_law : Addr
  fd_law : FuncData
  D_law : Dfn K mg "law" s_law f_law fd_law ["_law_script"]
  c_BadSize : Addr
  X_BadSize : ErrC K mg "BadSize" c_BadSize
  c_BadRow : Addr
  X_BadRow : ErrC K mg "BadRow" c_BadRow
  c_BadDeeds : Addr
  X_BadDeeds : ErrC K mg "BadDeeds" c_BadDeeds
  c_Unlike : Addr
  X_Unlike : ErrC K mg "Unlike" c_Unlike
  c_DialError : Addr
  X_DialError : ErrC K mg "DialError" c_DialError
  m_BadSize : PySem.W.exmOne K (.ref c_BadSize) (.ref c_DialError) = some true
  v_BadSize : PySem.W.kitOne K (.ref c_BadSize) (.type "ValueError") = some true
  i_BadSize_BadSize : PySem.W.kitOne K (.ref c_BadSize) (.ref c_BadSize) = some true
  i_BadSize_BadRow : PySem.W.kitOne K (.ref c_BadSize) (.ref c_BadRow) = some false
  i_BadSize_BadDeeds : PySem.W.kitOne K (.ref c_BadSize) (.ref c_BadDeeds) = some false
  i_BadSize_Unlike : PySem.W.kitOne K (.ref c_BadSize) (.ref c_Unlike) = some false
  m_BadRow : PySem.W.exmOne K (.ref c_BadRow) (.ref c_DialError) = some true
  v_BadRow : PySem.W.kitOne K (.ref c_BadRow) (.type "ValueError") = some true
  i_BadRow_BadSize : PySem.W.kitOne K (.ref c_BadRow) (.ref c_BadSize) = some false
  i_BadRow_BadRow : PySem.W.kitOne K (.ref c_BadRow) (.ref c_BadRow) = some true
  i_BadRow_BadDeeds : PySem.W.kitOne K (.ref c_BadRow) (.ref c_BadDeeds) = some false
  i_BadRow_Unlike : PySem.W.kitOne K (.ref c_BadRow) (.ref c_Unlike) = some false
  m_BadDeeds : PySem.W.exmOne K (.ref c_BadDeeds) (.ref c_DialError) = some true
  v_BadDeeds : PySem.W.kitOne K (.ref c_BadDeeds) (.type "ValueError") = some true
  i_BadDeeds_BadSize : PySem.W.kitOne K (.ref c_BadDeeds) (.ref c_BadSize) = some false
  i_BadDeeds_BadRow : PySem.W.kitOne K (.ref c_BadDeeds) (.ref c_BadRow) = some false
  i_BadDeeds_BadDeeds : PySem.W.kitOne K (.ref c_BadDeeds) (.ref c_BadDeeds) = some true
  i_BadDeeds_Unlike : PySem.W.kitOne K (.ref c_BadDeeds) (.ref c_Unlike) = some false
  m_Unlike : PySem.W.exmOne K (.ref c_Unlike) (.ref c_DialError) = some true
  v_Unlike : PySem.W.kitOne K (.ref c_Unlike) (.type "ValueError") = some true
  i_Unlike_BadSize : PySem.W.kitOne K (.ref c_Unlike) (.ref c_BadSize) = some false
  i_Unlike_BadRow : PySem.W.kitOne K (.ref c_Unlike) (.ref c_BadRow) = some false
  i_Unlike_BadDeeds : PySem.W.kitOne K (.ref c_Unlike) (.ref c_BadDeeds) = some false
  i_Unlike_Unlike : PySem.W.kitOne K (.ref c_Unlike) (.ref c_Unlike) = some true
  z_ValueError : mg "ValueError" = none
  z_abs : mg "abs" = none
  z_all : mg "all" = none
  z_bool : mg "bool" = none
  z_enumerate : mg "enumerate" = none
  z_int : mg "int" = none
  z_isinstance : mg "isinstance" = none
  z_len : mg "len" = none
  z_list : mg "list" = none
  z_min : mg "min" = none
  z_range : mg "range" = none
  z_sorted : mg "sorted" = none
  z_sum : mg "sum" = none
  z_tuple : mg "tuple" = none
  z_zip : mg "zip" = none

variable {P : Program} {w : World} {K : PySem.W.Frag} {mg : Str → Option Value} {base : Heap}
end Dial

namespace Dial
open PySem PySem.Spec PyProof.Rows L2 Dr DM
variable {P : Program} {w : World} {K : PySem.W.Frag} {mg : Str → Option Value} {base : Heap}
/-- the classes of what is raised -/
def ecls (T : Txt K mg) : Nat → Addr
  | 0 => T.c_BadSize | 1 => T.c_BadRow | 2 => T.c_BadDeeds | _ => T.c_Unlike
/-! is_number -/
def sp_is_number (K : PySem.W.Frag) : Sp := fun vs H Q _ => ∃ (G : Hp) (d : PyData) (v : V), vs = [v] ∧ Same G H ∧ Dp K G v d ∧ Q (.bl (isNum d)) H
theorem ok_is_number (T : Txt K mg) : FnOk P w K mg base CX0 1 T.f_is_number T.fd_is_number ["thing"] (sp_is_number K) := by
  refine T.D_is_number.F.ok sc_is_number (fun vs H Q E h => ?_) (fun cdv A outer s H vs Q E hr h => ?_)
  · obtain ⟨G, d, v, rfl, _⟩ := h; rfl
  · obtain ⟨G, d, v, rfl, e, hd, q⟩ := h
    have ht := dp_tyx (Dp.mono e _ _ hd)
    refine ⟨_, (pss_one (ps_ret (pe_and (pe_callB (id := "isinstance") (r := rIsi K) call_isi (by rfl) T.z_isinstance (by decide +kernel) (pa_cons (pv 0) (pa_cons (pe_bltn (v := .ty "int") (by rfl) T.z_int (by decide +kernel) rfl) pa_nil))) (pe_one (pe_not (pe_callB (id := "isinstance") (r := rIsi K) call_isi (by rfl) T.z_isinstance (by decide +kernel) (pa_cons (pv 0) (pa_cons (pe_bltn (v := .ty "bool") (by rfl) T.z_bool (by decide +kernel) rfl) pa_nil)))))))), ?_⟩
    refine ⟨_, rfl, _, _, _, _, isIntB d, rfl, .ty _, ht, kit_int d, isIntB d, rfl, ?_⟩
    cases hI : isIntB d with
    | false =>
      have z : isNum d = false := by cases d <;> first | rfl | cases hI
      rw [z] at q
      exact q
    | true =>
      refine ⟨_, rfl, _, _, _, _, isBoolB d, rfl, .ty _, ht, kit_bool d, isBoolB d, rfl, ?_⟩
      have z : isNum d = !isBoolB d := by cases d <;> first | rfl | cases hI
      rw [z] at q
      exact q
/-! asked_size -/
def sp_asked_size (K : PySem.W.Frag) (ec : Nat → Addr) : Sp := fun vs H Q E => ∃ (G : Hp) (d : PyData) (v : V), vs = [v] ∧ Same G H ∧ Dp K G v d ∧ (eSize d = true → RtV G H .non Q) ∧ (eSize d = false → RtX G H (ec 0) E)
theorem ok_asked_size (T : Txt K mg) : FnOk P w K mg base (L2.CX P w) 2 T.f_asked_size T.fd_asked_size ["size"] (sp_asked_size K (ecls T)) := by
  refine T.D_asked_size.F.okX sc_asked_size (fun vs H Q E h => ?_) (fun cdv A outer s H vs Q E hr h => ?_)
  · obtain ⟨G, d, v, rfl, _⟩ := h; rfl
  · obtain ⟨G, d, v, rfl, e, hd, q1, q2⟩ := h
    refine ⟨_, (pss_one (ps_if (PW.pt (pw_or (pt_not (pt_val (pe_call (ok_is_number T) (hr.mono (by decide)) (by rfl) T.D_is_number.g T.D_is_number.F.kp T.D_is_number.b .nil pass0 (pa_cons (pv 0) pa_nil)))) (pw_or1 (pt_cmpR op_lt (pv 0) pe_int (nomark _))))) (pss_one (ps_raise rfl (takes_of rfl rfl rfl rfl) (pmk_own PySem.F.excBase_ValueError T.X_BadSize.x T.X_BadSize.g T.X_BadSize.k (raises_own T.X_BadSize.b T.X_BadSize.t) (by rfl)))) pss_nil)), ?_⟩
    refine ⟨_, rfl, G, d, v, rfl, e, hd, isNum d, rfl, ?_⟩
    cases hN : isNum d with
    | false =>
      have z : eSize d = false := by cases d <;> first | rfl | cases hN
      exact q2 z _ _ (Gr.refl e)
    | true =>
      obtain ⟨n, rfl⟩ : ∃ n, d = .int n := by cases d <;> first | exact ⟨_, rfl⟩ | cases hN
      cases dp_int hd
      refine ⟨_, rfl, n, 2, rfl, rfl, _, rfl, ?_⟩
      by_cases h2 : n < 2
      · rw [decide_eq_true h2]
        exact q2 (decide_eq_false (by omega)) _ _ (Gr.refl e)
      · rw [decide_eq_false h2]
        exact q1 (decide_eq_true (by omega)) _ _ (Gr.refl e)
/-! asked_row -/
def sp_asked_row (K : PySem.W.Frag) (ec : Nat → Addr) : Sp := fun vs H Q E => ∃ (G : Hp) (size : Int) (d : PyData) (v : V), vs = [.int size, v] ∧ Same G H ∧ Dp K G v d ∧ shortD d ∧ (eRow size d = true → RtV G H .non Q) ∧ (eRow size d = false → RtX G H (ec 1) E)
theorem ok_asked_row (T : Txt K mg) : FnOk P w K mg base (L2.CX P w) 2 T.f_asked_row T.fd_asked_row ["size", "row"] (sp_asked_row K (ecls T)) := by
  refine T.D_asked_row.F.okX sc_asked_row (fun vs H Q E h => ?_) (fun cdv A outer s H vs Q E hr h => ?_)
  · obtain ⟨G, size, d, v, rfl, _⟩ := h; rfl
  · obtain ⟨G, size, d, v, rfl, e, hd, hl, q1, q2⟩ := h
    have s : S K G H [] [] G H := S.start e (fun _ h => nomatch h)
    refine ⟨_, (pss_one (ps_if (PW.pt (pw_or (pt_not (pt_val (pe_callB (id := "isinstance") (r := rIsi K) call_isi (by rfl) T.z_isinstance (by decide +kernel) (pa_cons (pv 1) (pa_cons (pe_bltn (v := .ty "list") (by rfl) T.z_list (by decide +kernel) rfl) pa_nil))))) (pw_or1 (pt_not (pt_val (pe_callB (id := "all") (r := rAll K) (cr_all rfl) (by rfl) T.z_all (by decide +kernel) (pa_cons (pe_lc (own := [("figure", 2)]) (g := gName 2) (tt := tYes) rfl sc_asked_row.nd (pi_list (pv 1)) (blkOk_by (own := [("figure", 2)]) (N := N_asked_row) (sc := defScope s_asked_row) (by decide +kernel)) (fun _ _ _ _ _ => pg_name (i := 2) sc_asked_row.nd rfl (Or.inl rfl)) (fun _ _ _ _ _ => pts_nil) (fun _ _ _ _ _ => (pe_and (pe_call (ok_is_number T) (hr.mono (by decide)) (by rfl) T.D_is_number.g T.D_is_number.F.kp T.D_is_number.b .nil pass0 (pa_cons (pv 2) pa_nil)) (pe_one (pe_chain op_le op_lt pe_int (pv 2) (pv 0)))))) pa_nil))))))) (pss_one (ps_raise rfl (takes_of rfl rfl rfl rfl) (pmk_own PySem.F.excBase_ValueError T.X_BadRow.x T.X_BadRow.g T.X_BadRow.k (raises_own T.X_BadRow.b T.X_BadRow.t) (by rfl)))) pss_nil)), ?_⟩
    refine ⟨_, rfl, _, _, _, _, isLst d, rfl, .ty _, dp_tyx (Dp.mono e _ _ hd), kit_list d, isLst d, rfl, ?_⟩
    cases hL : isLst d with
    | false =>
      have z : eRow size d = false := by cases d <;> first | rfl | cases hL
      exact q2 z _ _ (Gr.refl e)
    | true =>
      obtain ⟨ds, rfl⟩ : ∃ ds, d = .list ds := by cases d <;> first | exact ⟨_, rfl⟩ | cases hL
      have hl : ds.length ≤ 1000 := hl
      obtain ⟨a, xs, rfl, hq, hxs⟩ := dp_list hd
      refine ⟨.ref a, rfl, a, rfl, ⟨_, e.seq hq⟩, fun D hD => lc_wk (wk_list hq hxs) s hD (Same.refl _) (small (by omega)) ((ds.map (eFig size)).map PyData.bool) (by simp) (fun i d x G1 H1 hi hy s1 hx R k => ?_) (fun xs G1 H1 s1 hxs => ?_)⟩
      · refine ⟨rfl, _, rfl, _, d, x, rfl, s1.same, hx, isNum d, rfl, ?_⟩
        have ho : ((ds.map (eFig size)).map PyData.bool)[i]? = some (.bool (eFig size d)) := by rw [List.getElem?_map, List.getElem?_map, hy]; rfl
        cases hN : isNum d with
        | false =>
          have z : eFig size d = false := by cases d <;> first | rfl | cases hN
          rw [z] at ho
          exact k _ _ _ _ (Gr.refl s1.same) ho (.bl false)
        | true =>
          obtain ⟨n, rfl⟩ : ∃ n, d = .int n := by cases d <;> first | exact ⟨_, rfl⟩ | cases hN
          cases dp_int hx
          refine ⟨_, rfl, 0, n, rfl, rfl, _, rfl, ?_⟩
          have z : eFig size (.int n) = (decide (0 ≤ n) && decide (n < size)) := rfl
          rw [z] at ho
          by_cases h1 : 0 ≤ n
          · rw [decide_eq_true h1] at ho ⊢
            refine ⟨_, rfl, n, size, rfl, rfl, ?_⟩
            exact k _ _ _ _ (Gr.refl s1.same) ho (.bl _)
          · rw [decide_eq_false h1] at ho ⊢
            exact k _ _ _ _ (Gr.refl s1.same) ho (.bl false)
      · rw [dpAll_bools hxs] at s1
        refine ⟨D, _, rfl, SqL.of (s1.o 0 rfl), _, rfl, ?_⟩
        have e1 : ((ds.map (eFig size)).all id) = eRow size (.list ds) := by rw [List.all_map]; rfl
        rw [e1]
        cases hR : eRow size (.list ds) with
        | false => exact q2 hR _ _ s1.gr
        | true => exact q1 hR _ _ s1.gr
end Dial

namespace Dial
open PySem PySem.Spec PyProof.Rows L2 Dr DM
variable {P : Program} {w : World} {K : PySem.W.Frag} {mg : Str → Option Value} {base : Heap}
/-! is_deed -/
def sp_is_deed (K : PySem.W.Frag) : Sp := fun vs H Q _ => ∃ (n : Int) (d : Deed), vs = [.int n, .int d.1, .int d.2.1, .int d.2.2] ∧ Q (.bl (isDeed n d)) H
theorem ok_is_deed (T : Txt K mg) : FnOk P w K mg base CX0 1 T.f_is_deed T.fd_is_deed ["many", "first", "end", "steps"] (sp_is_deed K) := by
  refine T.D_is_deed.F.ok sc_is_deed (fun vs H Q E h => ?_) (fun cdv A outer s H vs Q E hr h => ?_)
  · obtain ⟨n, d, rfl, _⟩ := h; rfl
  · obtain ⟨n, ⟨f, e, st⟩, rfl, q⟩ := h
    refine ⟨_, (pss_one (ps_ret (pe_and (pe_chain3 op_le op_lt op_le pe_int (pv 1) (pv 2) (pv 0)) (pe_one (pe_cmpR op_ne (pv 3) pe_int (nomark _)))))), ?_⟩
    have q' : Q (.bl ((decide (0 ≤ f) && (decide (f < e) && decide (e ≤ n))) && !decide (st = 0))) H := q
    clear q
    refine ⟨_, rfl, 0, f, rfl, rfl, _, rfl, ?_⟩
    by_cases h1 : 0 ≤ f
    · rw [decide_eq_true h1] at q' ⊢
      refine ⟨_, rfl, f, e, rfl, rfl, _, rfl, ?_⟩
      by_cases h2 : f < e
      · rw [decide_eq_true h2] at q' ⊢
        refine ⟨_, rfl, e, n, rfl, rfl, _, rfl, ?_⟩
        by_cases h3 : e ≤ n
        · rw [decide_eq_true h3] at q' ⊢
          refine ⟨_, rfl, rfl, ?_⟩
          have e0 : decide (V.int st = V.int 0) = decide (st = 0) := by simp
          rw [e0]
          exact q'
        · rw [decide_eq_false h3] at q' ⊢
          exact q'
      · rw [decide_eq_false h2] at q' ⊢
        exact ⟨_, rfl, q'⟩
    · rw [decide_eq_false h1] at q' ⊢
      exact ⟨_, rfl, q'⟩
end Dial

namespace Dial
open PySem PySem.Spec PyProof.Rows L2 Dr DM
variable {P : Program} {w : World} {K : PySem.W.Frag} {mg : Str → Option Value} {base : Heap}
/-! turned_by -/
def sp_turned_by (K : PySem.W.Frag) : Sp := fun vs H Q _ => ∃ (G : Hp) (size : Int) (row : List Int) (ds : List Deed) (v u : V), vs = [.int size, v, u] ∧ Same G H ∧ Dp K G v (dI row) ∧ Dp K G u (dT ds) ∧
  (0 < size ∧ row.length ≤ 1000 ∧ ∀ d ∈ ds, Okd row.length d) ∧ RtL K G H ((turnedBy size row ds).map .int) Q
theorem ok_turned_by (T : Txt K mg) : FnOk P w K mg base CX0 1 T.f_turned_by T.fd_turned_by ["size", "row", "deeds"] (sp_turned_by K) := by
  refine T.D_turned_by.F.ok sc_turned_by (fun vs H Q E h => ?_) (fun cdv A outer s H vs Q E hr h => ?_)
  · obtain ⟨G, size, row, ds, v, u, rfl, _⟩ := h; rfl
  · obtain ⟨G, size, row, ds, v, u, rfl, e, hrow, hds, ⟨hs, hl, hv⟩, q⟩ := h
    have s : S K G H [(v, dI row), (u, dT ds)] [] G H := S.start e (by
      intro p hp
      simp only [List.mem_cons, List.not_mem_nil, or_false] at hp
      rcases hp with rfl | rfl
      · exact hrow
      · exact hds)
    obtain ⟨a, rfl, hq⟩ := dp_ints hrow
    refine ⟨_, (pss_cons (ps_setLc (i := 3) (own := [("place", 11)]) (g := gName 11) (tt := tYes) rfl sc_turned_by.nd rfl rfl (sw_true rfl rfl rfl (by decide +kernel)) (pi_range1 (by rfl) T.z_range (pa_cons (pe_op op_add (pe_callB (id := "len") (r := rLen K) call_lenK (by rfl) T.z_len PySem.boot_len (pa_cons (pv 1) pa_nil)) pe_int) pa_nil)) (blkOk_by (own := [("place", 11)]) (N := N_turned_by) (sc := defScope s_turned_by) (by decide +kernel)) (fun _ _ _ _ _ => pg_name (i := 11) sc_turned_by.nd rfl (Or.inl rfl)) (fun _ _ _ _ _ => pts_nil) (fun _ _ _ _ _ => pe_int))
    (pss_cons (ps_for PassesOwn.never rfl (pi_list (pv 2)) ((pg_tup rfl (pgs_cons (pg_name (i := 4) sc_turned_by.nd rfl (Or.inl rfl)) (pgs_cons (pg_name (i := 5) sc_turned_by.nd rfl (Or.inl rfl)) (pgs_cons (pg_name (i := 6) sc_turned_by.nd rfl (Or.inl rfl)) pgs_nil))))) (pss_cons (ps_asg (pe_op op_add (pe_ix (r := rIxL K) ix_list (pv 3) (pv 4) (fun _ _ => rfl)) (pv 6)) (pg_sub (pv 3) (pv 4) set_list))
      (pss_one (ps_asg (pe_op op_sub (pe_ix (r := rIxL K) ix_list (pv 3) (pv 5) (fun _ _ => rfl)) (pv 6)) (pg_sub (pv 3) (pv 5) set_list)))))
    (pss_cons (ps_set (i := 7) sc_turned_by.nd rfl (.inl rfl) (pe_lst pa_nil))
    (pss_cons (ps_set (i := 8) sc_turned_by.nd rfl (.inl rfl) pe_int)
    (pss_cons (ps_for PassesOwn.never rfl (pi_zip (by rfl) T.z_zip (pa_cons (pv 1) (pa_cons (pv 3) pa_nil))) ((pg_tup rfl (pgs_cons (pg_name (i := 9) sc_turned_by.nd rfl (Or.inl rfl)) (pgs_cons (pg_name (i := 10) sc_turned_by.nd rfl (Or.inl rfl)) pgs_nil)))) (pss_cons (ps_set (i := 8) sc_turned_by.nd rfl (.inl rfl) (pe_op op_add (pv 8) (pv 10)))
      (pss_one (ps_expr (pe_bm PySem.F.plainAttrs_list PySem.F.slot_list_append PySem.F.type_list_append mt_append (pv 7) (pa_cons (pe_op op_mod (pe_op op_add (pv 9) (pv 8)) (pv 0)) pa_nil))))))
    (pss_one (ps_ret (pv 7)))))))), ?_⟩
    -- changes = [0 for ..]
    refine ⟨.ref a, rfl, a, _, rfl, .inl (e.seq hq), _, 1, rfl, rfl, _, rfl, ?_, ?_, ?_⟩
    · rw [List.length_map]; omega
    · rw [List.length_map]; omega
    rw [List.length_map]
    refine fun D hD => lc_wk (G := G) (wk_rng (G := G)) s hD (Same.refl _) (small (by omega)) ((List.replicate (row.length + 1) (0 : Int)).map PyData.int) (by simp) (fun i d x G1 H1 hi hy s1 hx R k => ?_) (fun xs G1 H1 s1 hxs => ?_)
    · refine ⟨rfl, k _ _ _ (.int 0) (Gr.refl s1.same) ?_ (.int 0)⟩
      rw [List.map_replicate, List.getElem?_replicate, if_pos (by omega)]
    rw [ints_dpAll hxs] at s1
    clear hxs
    obtain ⟨b, ys, e2, hq2, ha2⟩ := dp_list (s1.g 1 rfl)
    cases e2
    -- for first, end, steps in deeds
    refine ⟨.ref b, rfl, b, rfl, ⟨_, s1.same.seq hq2⟩, for_wk (wk_list hq2 ha2) (fun i σ G2 H2 => ∃ y4 y5 y6, σ = [some (.int size), some (.ref a), some (.ref b), some (.ref D), y4, y5, y6, none, none, none, none, none] ∧ Same G1 G2 ∧
        S K G H [(.ref a, dI row), (.ref b, dT ds)] [(D, .lst (((ds.take i).foldl bumpD (List.replicate (row.length + 1) 0)).map V.int))] G2 H2)
      ⟨G1, none, none, none, rfl, Same.refl _, s1⟩ (fun i σ G2 H2 ⟨y4, y5, y6, e1, e3, s2⟩ => ⟨e3, s2.same⟩) (fun i d x σ G2 H2 G3 H3 hi ⟨y4, y5, y6, e1, e3, s2⟩ g3 hy hx => ?_) (fun σ G2 H2 ⟨y4, y5, y6, e1, e3, s2⟩ => ?_)⟩
    · subst e1
      obtain ⟨t, ht, rfl⟩ := map_get hy
      have okt := hv t (List.mem_of_getElem? ht)
      obtain ⟨o1, o2, o3, o4⟩ := okt
      obtain ⟨p, rfl, hp⟩ := dp_d3 hx
      have s3 := s2.grow g3
      have hp3 := Same.tup s3.same hp
      refine ⟨p, _, rfl, hp3, rfl, _, _, rfl, _, _, rfl, _, _, rfl, rfl, ?_⟩
      have lc : ((ds.take i).foldl bumpD (List.replicate (row.length + 1) 0)).length = row.length + 1 := by
        rw [changes_len row.length]; simp
      have et : (ds.take (i + 1)).foldl bumpD (List.replicate (row.length + 1) 0) = bumpD ((ds.take i).foldl bumpD (List.replicate (row.length + 1) 0)) t := by
        rw [List.take_add_one, ht, List.foldl_append]; rfl
      rw [et]
      generalize hC : (ds.take i).foldl bumpD (List.replicate (row.length + 1) 0) = C at s3 lc
      obtain ⟨f, en, st⟩ := t
      simp only at o1 o2 o3 o4
      -- changes[first] = changes[first] + steps
      refine ⟨.ref D, rfl, _, rfl, D, _, _, _, rfl, rfl, SqL.of (s3.o 0 rfl), at_int o1 (by omega), _, rfl, _, _, rfl, rfl, .ref D, rfl, _, rfl, D, _, _, _, rfl, rfl, s3.o 0 rfl, ixN_nn o1 (by rw [List.length_map]; omega), ?_⟩
      have s4 := s3.put 0 rfl (.lst ((C.map V.int).set f.toNat (.int (C.getD f.toNat 0 + st))))
      rw [int_set] at s4 ⊢
      have l4 : (C.set f.toNat (C.getD f.toNat 0 + st)).length = row.length + 1 := by rw [List.length_set]; exact lc
      refine ⟨.ref D, rfl, _, rfl, D, _, _, _, rfl, rfl, SqL.of (s4.o 0 rfl), at_int (i := en) (by omega) (by omega), _, rfl, _, _, rfl, rfl, .ref D, rfl, _, rfl, D, _, _, _, rfl, rfl, s4.o 0 rfl, ixN_nn (i := en) (by omega) (by rw [List.length_map]; omega), ?_⟩
      have s5 := s4.put 0 rfl (.lst (((C.set f.toNat (C.getD f.toNat 0 + st)).map V.int).set en.toNat (.int ((C.set f.toNat (C.getD f.toNat 0 + st)).getD en.toNat 0 - st))))
      rw [int_set] at s5 ⊢
      exact ⟨G3, _, _, _, rfl, e3.trans g3.g, s5⟩
    · subst e1
      have el : (dT ds |> fun _ => (ds.map d3).length) = ds.length := by simp
      rw [List.length_map, List.take_of_length_le (Nat.le_refl _)] at s2
      -- found = []; far = 0
      refine ⟨Nat.zero_le _, fun F hF => ?_⟩
      have s3 := (s2.give (dpAll_ints _)).new (o := .lst []) hF
      clear s2
      have hcl : (ds.foldl bumpD (List.replicate (row.length + 1) 0)).length = row.length + 1 := by
        rw [changes_len row.length]; simp
      generalize hC : ds.foldl bumpD (List.replicate (row.length + 1) 0) = C at s3 hcl
      have etb : turnedBy size row ds = runBy size 0 row C := by unfold turnedBy changes; rw [hC]
      obtain ⟨c, e4, hc4⟩ := dp_ints (s3.g 0 rfl)
      cases e4
      obtain ⟨a', e5, ha5⟩ := dp_ints (s3.g 1 rfl)
      cases e5
      refine ⟨_, rfl, _, rfl, a, D, _, _, rfl, s3.same.seq ha5, s3.same.seq hc4, for_wk (wk_zip ha5 (dpAll_ints row) hc4 (dpAll_ints C)) (fun i σ G4 H4 => ∃ y4 y5 y6 y9 y10, σ = [some (.int size), some (.ref a), some (.ref b), some (.ref D), y4, y5, y6, some (.ref F), some (.int (C.take i).sum), y9, y10, none] ∧ Same _ G4 ∧
          S K G H [] [(F, .lst (((runBy size 0 row C).take i).map V.int))] G4 H4)
        ⟨_, _, _, _, none, none, rfl, Same.refl _, s3.less (fun _ h => nomatch h)⟩ (fun i σ G2 H2 ⟨y4, y5, y6, y9, y10, e1, e3, s2⟩ => ⟨e3, s2.same⟩) (fun i d x σ G2 H2 G3 H3 hi ⟨y4, y5, y6, y9, y10, e1, e3, s2⟩ g3 hy hx => ?_) (fun σ G2 H2 ⟨y4, y5, y6, y9, y10, e1, e3, s2⟩ => ?_)⟩
      · subst e1
        obtain ⟨x1, x2, h1, h2, rfl⟩ := hy
        obtain ⟨n1, hn1, rfl⟩ := map_get h1
        obtain ⟨n2, hn2, rfl⟩ := map_get h2
        obtain ⟨p, rfl, hp⟩ := dp_pairI hx
        have s4 := s2.grow g3
        refine ⟨p, _, rfl, Same.tup s4.same hp, rfl, _, _, rfl, _, _, rfl, rfl, ?_⟩
        -- far = far + change; found.append(..)
        refine ⟨_, rfl, _, rfl, _, _, rfl, rfl, ?_⟩
        refine ⟨.ref F, rfl, .inl ⟨rfl, _, SqL.of (s4.o 0 rfl)⟩, _, rfl, _, rfl, _, _, rfl, rfl, _, rfl, _, _, rfl, rfl, hs, F, _, _, rfl, rfl, s4.o 0 rfl, ?_, ?_⟩
        · rw [List.length_map, List.length_take]; exact small (by simp only [List.length_map] at hi; omega)
        · have s5 := s4.put 0 rfl (.lst (((runBy size 0 row C).take i).map V.int ++ [.int ((n1 + ((C.take i).sum + n2)) % size)]))
          have er := runBy_at size row C 0 i n1 n2 hn1 hn2
          rw [Int.zero_add] at er
          refine ⟨G3, y4, y5, y6, some (.int n1), some (.int n2), ?_, e3.trans g3.g, ?_⟩
          · rw [sumT hn2]
            rfl
          · rw [← take_map (f := V.int) er]
            exact s5
      · subst e1
        refine ⟨_, rfl, ?_⟩
        rw [List.length_map, List.length_map, show min row.length C.length = row.length by omega, ← runBy_len size row C 0 (by omega), List.take_of_length_le (Nat.le_refl _), ← etb] at s2
        exact q.out s2 (dpAll_ints _)
end Dial

namespace Dial
open PySem PySem.Spec PyProof.Rows L2 Dr DM
variable {P : Program} {w : World} {K : PySem.W.Frag} {mg : Str → Option Value} {base : Heap}
/-! gaps_of -/
theorem gapsGo_split (size : Int) : ∀ (ms ts : List Int) (a : Int) (m t : Int), ms = m :: ms.tail → ts = t :: ts.tail → gapsGo size a ms ts = (t - m - a) % size :: gapsGo size (t - m) ms.tail ts.tail := by
  intro ms ts a m t h1 h2
  rw [h1, h2]
  rfl
def sp_gaps_of (K : PySem.W.Frag) : Sp := fun vs H Q _ => ∃ (G : Hp) (size : Int) (one other : List Int) (v u : V), vs = [.int size, v, u] ∧ Same G H ∧ Dp K G v (dI one) ∧ Dp K G u (dI other) ∧
  (0 < size ∧ one.length ≤ 1000 ∧ one.length = other.length) ∧ RtL K G H ((gapsOf size one other).map .int) Q
theorem ok_gaps_of (T : Txt K mg) : FnOk P w K mg base CX0 1 T.f_gaps_of T.fd_gaps_of ["size", "one", "other"] (sp_gaps_of K) := by
  refine T.D_gaps_of.F.ok sc_gaps_of (fun vs H Q E h => ?_) (fun cdv A outer s H vs Q E hr h => ?_)
  · obtain ⟨G, size, one, other, v, u, rfl, _⟩ := h; rfl
  · obtain ⟨G, size, one, other, v, u, rfl, e, hv, hu, ⟨hs, hl, hl2⟩, q⟩ := h
    obtain ⟨a, rfl, hq⟩ := dp_ints hv
    obtain ⟨b, rfl, hq2⟩ := dp_ints hu
    have s : S K G H [] [] G H := S.start e (fun _ h => nomatch h)
    refine ⟨_, (pss_cons (ps_set (i := 3) sc_gaps_of.nd rfl (.inl rfl) (pe_lst pa_nil))
    (pss_cons (ps_set (i := 4) sc_gaps_of.nd rfl (.inl rfl) pe_int)
    (pss_cons (ps_for PassesOwn.never rfl (pi_zip (by rfl) T.z_zip (pa_cons (pv 1) (pa_cons (pv 2) pa_nil))) ((pg_tup rfl (pgs_cons (pg_name (i := 5) sc_gaps_of.nd rfl (Or.inl rfl)) (pgs_cons (pg_name (i := 6) sc_gaps_of.nd rfl (Or.inl rfl)) pgs_nil)))) (pss_cons (ps_expr (pe_bm PySem.F.plainAttrs_list PySem.F.slot_list_append PySem.F.type_list_append mt_append (pv 3) (pa_cons (pe_op op_mod (pe_op op_sub (pe_op op_sub (pv 6) (pv 5)) (pv 4)) (pv 0)) pa_nil)))
      (pss_one (ps_set (i := 4) sc_gaps_of.nd rfl (.inl rfl) (pe_op op_sub (pv 6) (pv 5))))))
    (pss_one (ps_ret (pe_op op_cat (pv 3) (pe_lst (pa_cons (pe_op op_mod (pe_un un_neg (pv 4)) (pv 0)) pa_nil)))))))), ?_⟩
    refine ⟨Nat.zero_le _, fun F hF => ?_⟩
    have s1 := s.new (o := .lst []) hF
    refine ⟨.ref a, rfl, .ref b, rfl, a, b, _, _, rfl, s1.same.seq hq, s1.same.seq hq2, for_wk (wk_zip hq (dpAll_ints one) hq2 (dpAll_ints other)) (fun i σ G1 H1 => ∃ y5 y6 ah xs, σ = [some (.int size), some (.ref a), some (.ref b), some (.ref F), some (.int ah), y5, y6] ∧
        S K G H [] [(F, .lst (xs.map V.int))] G1 H1 ∧ xs.length = i ∧ gapsOf size one other = xs ++ gapsGo size ah (one.drop i) (other.drop i))
      ⟨_, none, none, 0, [], rfl, s1, rfl, rfl⟩ (fun i σ G1 H1 ⟨_, _, _, _, e1, s1, _⟩ => ⟨s1.gr.g, s1.same⟩) (fun i d x σ G1 H1 G2 H2 hi ⟨y5, y6, ah, xs, e1, s1, hx1, hgo⟩ g2 hy hx => ?_) (fun σ G1 H1 ⟨y5, y6, ah, xs, e1, s1, hx1, hgo⟩ => ?_)⟩
    · subst e1
      obtain ⟨d1, d2, h1, h2, rfl⟩ := hy
      obtain ⟨m, hm, rfl⟩ := map_get h1
      obtain ⟨t, ht, rfl⟩ := map_get h2
      obtain ⟨p, rfl, hp⟩ := dp_pairI hx
      have s2 := s1.grow g2
      have ed1 : one.drop i = m :: one.drop (i + 1) := by
        obtain ⟨h1, h2⟩ := List.getElem?_eq_some_iff.mp hm
        rw [List.drop_eq_getElem_cons h1, h2]
      have ed2 : other.drop i = t :: other.drop (i + 1) := by
        obtain ⟨h1, h2⟩ := List.getElem?_eq_some_iff.mp ht
        rw [List.drop_eq_getElem_cons h1, h2]
      have hgo2 : gapsOf size one other = (xs ++ [(t - m - ah) % size]) ++ gapsGo size (t - m) (one.drop (i + 1)) (other.drop (i + 1)) := by
        rw [hgo, ed1, ed2, List.append_assoc]; rfl
      have hil : i < 1000 := by rw [List.length_map, List.length_map] at hi; omega
      refine ⟨p, _, rfl, Same.tup s2.same hp, rfl, _, _, rfl, _, _, rfl, rfl, ?_⟩
      refine ⟨_, rfl, .inl ⟨rfl, _, SqL.of (s2.o 0 rfl)⟩, _, rfl, _, rfl, _, _, rfl, rfl, _, rfl, _, _, rfl, rfl, _, rfl, _, _, rfl, rfl, hs, F, _, _, rfl, rfl, s2.o 0 rfl, small (by rw [List.length_map]; omega), ?_⟩
      have s3 := s2.put 0 rfl (.lst (xs.map V.int ++ [.int ((t - m - ah) % size)]))
      refine ⟨_, rfl, _, rfl, _, _, rfl, rfl, ?_⟩
      refine ⟨G2, _, _, t - m, xs ++ [(t - m - ah) % size], rfl, ?_, ?_, hgo2⟩
      · rw [List.map_append]; exact s3
      · rw [List.length_append, List.length_singleton]; omega
    · subst e1
      rw [List.length_map, List.length_map, show min one.length other.length = one.length by omega, List.drop_of_length_le (Nat.le_refl _)] at hgo
      have hgo2 : gapsOf size one other = xs ++ [(-ah) % size] := by
        rw [hgo]; unfold gapsGo
        cases other.drop one.length <;> rfl
      refine ⟨.ref F, rfl, _, rfl, _, rfl, _, rfl, _, _, rfl, rfl, hs, small3 (by show 1 ≤ 100000; decide), fun L hL => ?_⟩
      have s2 := s1.new (o := .lst [.int ((-ah) % size)]) hL
      refine ⟨F, L, _, _, rfl, rfl, s2.o 1 rfl, s2.o 0 rfl, ?_, fun N hN => ?_⟩
      · rw [List.length_map, hx1]
        show min (one.map PyData.int).length (other.map PyData.int).length + 1 ≤ sizeLine
        rw [List.length_map, List.length_map]
        exact small3 (by omega)
      have s3 := s2.new (o := .lst (xs.map V.int ++ [.int ((-ah) % size)])) hN
      refine RtL.out q s3 ?_
      rw [hgo2, List.map_append]
      exact DpAll.append (dpAll_ints xs) (DpAll.one (.int _))
end Dial

namespace Dial
open PySem PySem.Spec PyProof.Rows L2 Dr DM
variable {P : Program} {w : World} {K : PySem.W.Frag} {mg : Str → Option Value} {base : Heap}
/-! grown -/
theorem order_uniq {gaps : List Int} {us : List (Int × Int)} (hp : us.Perm (pairsOf gaps)) (hs : us.Pairwise fun x y => SrtO.lexB y x = false) : us = orderOf gaps := by
  refine isort_uniq leP leP_tot leP_tr leP_anti hp (hs.imp fun {a b} h => ?_)
  have := SrtO.lexB_no.mp h
  unfold leP
  simp only [decide_eq_true_eq]
  omega
def sp_grown (K : PySem.W.Frag) : Sp := fun vs H Q _ => ∃ (G : Hp) (size : Int) (gaps : List Int) (v : V), vs = [.int size, v] ∧ Same G H ∧ Dp K G v (dI gaps) ∧
  (Gaps size gaps ∧ size < 2 ^ 107 ∧ gaps.length ≤ 1001) ∧ ∀ t c G' H', Gr G H G' H' → H t = none → H c = none → G' t = none → G' c = none → H' t = some (.tup [.ref c, .int (markOf size gaps)]) → H' c = some (.lst ((changesOf size gaps).map V.int)) → Q (.ref t) H'
theorem ok_grown (T : Txt K mg) : FnOk P w K mg base CX0 1 T.f_grown T.fd_grown ["size", "gaps"] (sp_grown K) := by
  refine T.D_grown.F.ok sc_grown (fun vs H Q E h => ?_) (fun cdv A outer s H vs Q E hr h => ?_)
  · obtain ⟨G, size, gaps, v, rfl, _⟩ := h; rfl
  · obtain ⟨G, size, gaps, v, rfl, e, hv, ⟨hg, hz, hl⟩, q⟩ := h
    obtain ⟨a, rfl, hq⟩ := dp_ints hv
    have s : S K G H [(.ref a, dI gaps)] [] G H := S.start e (fun p hp => by rcases List.mem_singleton.mp hp with rfl; exact hv)
    obtain ⟨m1, m2, m3⟩ := hg.many
    obtain ⟨c1, c2, c3⟩ := hg.cut
    have hpos := hg.pos
    have ol := order_len gaps
    refine ⟨_, (pss_cons (ps_set (i := 2) sc_grown.nd rfl (.inl rfl) (pe_op op_fdivW (pe_callB (id := "sum") (r := rSum K) (cr_sum rfl) (by rfl) T.z_sum (by decide +kernel) (pa_cons (pv 1) pa_nil)) (pv 0)))
    (pss_cons (ps_set (i := 3) sc_grown.nd rfl (.inl rfl) (pe_callB (id := "sorted") (r := rSorted2 K) cr_sorted2 (by rfl) T.z_sorted (by decide +kernel) (pa_cons (pe_lc (own := [("place", 6), ("gap", 5)]) (g := gTup _ 2 (gCons (gName 6) (gCons (gName 5) (gNil)))) (tt := tYes) rfl sc_grown.nd (pi_enum (by rfl) T.z_enumerate (pa_cons (pv 1) pa_nil)) (blkOk_by (own := [("place", 6), ("gap", 5)]) (N := N_grown) (sc := defScope s_grown) (by decide +kernel)) (fun _ _ _ _ _ => (pg_tup rfl (pgs_cons (pg_name (i := 6) sc_grown.nd rfl (Or.inl rfl)) (pgs_cons (pg_name (i := 5) sc_grown.nd rfl (Or.inl rfl)) pgs_nil)))) (fun _ _ _ _ _ => pts_nil) (fun _ _ _ _ _ => (pe_tup (pa_cons (pv 5) (pa_cons (pv 6) pa_nil))))) pa_nil)))
    (pss_cons (ps_set (i := 4) sc_grown.nd rfl (.inl rfl) (pe_callTy (T := "list") call_list_of (by rfl) T.z_list (by decide +kernel) (pa_cons (pv 1) pa_nil)))
    (pss_cons (ps_for PassesOwn.never rfl (pi_list (pe_slice sl_list (pv 3) (po_some (pe_op op_sub (pe_callB (id := "len") (r := rLen K) call_lenK (by rfl) T.z_len PySem.boot_len (pa_cons (pv 3) pa_nil)) (pv 2))) po_none)) ((pg_tup rfl (pgs_cons (pg_name (i := 5) sc_grown.nd rfl (Or.inl rfl)) (pgs_cons (pg_name (i := 6) sc_grown.nd rfl (Or.inl rfl)) pgs_nil)))) (pss_one (ps_asg (pe_op op_sub (pv 5) (pv 0)) (pg_sub (pv 4) (pv 6) set_list))))
    (pss_one (ps_ret (pe_tup (pa_cons (pv 4) (pa_cons (pe_ix (r := rIxT K) ix_tup (pe_ix (r := rIxL K) ix_list (pv 3) (pe_op op_sub (pe_op op_sub (pe_callB (id := "len") (r := rLen K) call_lenK (by rfl) T.z_len PySem.boot_len (pa_cons (pv 3) pa_nil)) (pv 2)) pe_int) (fun _ _ => rfl)) pe_int (fun _ _ => rfl)) pa_nil))))))))), ?_⟩
    -- many
    refine ⟨.ref a, rfl, a, gaps, rfl, e.seq hq, _, rfl, _, _, rfl, rfl, div_ok hpos (Int.lt_trans hz (by decide)), ?_⟩
    -- order = sorted([..])
    refine ⟨.ref a, rfl, a, _, rfl, e.seq hq, fun D hD => lc_wkR Tp2 Tp2.mono (wk_enum hq (dpAll_ints gaps)) s hD (Same.refl _) (by rw [List.length_map]; exact small (by omega)) (pairsOf gaps) (by rw [pairsOf_len, List.length_map]) (fun i d x G1 H1 hi hy s1 hx R k => ?_) (fun xs G1 H1 s1 hxs => ?_)⟩
    · obtain ⟨d1, hd1, rfl⟩ := hy
      obtain ⟨g, hgi, rfl⟩ := map_get hd1
      obtain ⟨p, rfl, hp⟩ := dp_pairI hx
      refine ⟨p, _, rfl, Same.tup s1.same hp, rfl, _, _, rfl, _, _, rfl, rfl, rfl, ?_⟩
      refine ⟨_, rfl, _, rfl, small3 (by show 2 ≤ 100000; decide), fun t ht => ?_⟩
      refine k _ _ _ (g, (i : Int)) (Gr.new s1.same ht) ?_ ⟨t, rfl, upd_same⟩
      rw [pairsOf_get, hgi]; rfl
    refine ⟨D, xs, pairsOf gaps, Tp2 G1, rfl, SqL.of (s1.o 0 rfl), (fun v x h => Tp2.mono _ _ v x s1.same h), hxs, fun ys us p hpm hsr hys np => ?_⟩
    have eo := order_uniq hpm hsr
    subst eo
    have hysl : ys.length = gaps.length := by rw [AllR.len hys, ol]
    have s2 := s1.drop.new (o := .lst ys) np
    -- found = list(gaps)
    obtain ⟨a', e2, hq2⟩ := dp_ints (s2.g 0 rfl)
    cases e2
    refine ⟨.ref a, rfl, a, _, rfl, .inl (s2.same.seq hq2), fun F hF => ?_⟩
    have s3 := s2.new (o := .lst (gaps.map V.int)) hF
    have hcut : ((ys.length : Nat) : Int) - gaps.sum / size = ((cutOf size gaps : Nat) : Int) := by rw [show gaps.sum / size = manyOf size gaps from rfl, hysl]; omega
    -- order[len(order) - many:]
    refine ⟨.ref p, rfl, _, rfl, p, _, rfl, .inl (SqL.of (s3.o 1 rfl)), _, rfl, _, _, rfl, rfl, _, rfl, p, _, rfl, SqL.of (s3.o 1 rfl), fun u hu => ?_⟩
    rw [hcut, cut_lo]
    have s4 := s3.lst hu (DpAll.drop (cutOf size gaps) (AllR.dp (K := K) (Tp2.dp (K := K)) hys))
    rw [← List.map_drop] at s4
    have g4 : Same G1 (upd G1 u (.lst (ys.drop (cutOf size gaps)))) := same_new (s3.same.free hu)
    have hys4 := AllR.mono (fun v x h => Tp2.mono _ _ v x g4 h) hys
    generalize upd G1 u (.lst (ys.drop (cutOf size gaps))) = G4 at s4 hys4
    obtain ⟨u', zs, e4, hq4, hz4⟩ := dp_list (s4.g 0 rfl)
    cases e4
    have hU : ∀ pr ∈ (orderOf gaps).drop (cutOf size gaps), ∃ i : Nat, pr.2 = i ∧ i < gaps.length := fun pr hpr => by
      obtain ⟨i, h1, h2⟩ := pairsOf_mem ((order_perm gaps).mem_iff.mp (List.mem_of_mem_drop hpr))
      exact ⟨i, h1, (List.getElem?_eq_some_iff.mp h2).1⟩
    refine ⟨u, rfl, ⟨_, s4.same.seq hq4⟩, for_wk (wk_list hq4 hz4) (fun i σ G5 H5 => ∃ y5 y6, σ = [some (.int size), some (.ref a), some (.int (manyOf size gaps)), some (.ref p), some (.ref F), y5, y6] ∧ Same G4 G5 ∧
        S K G H [(.ref a, dI gaps)] [(F, .lst (((((orderOf gaps).drop (cutOf size gaps)).take i).foldl (lower size) gaps).map V.int)), (p, .lst ys)] G5 H5)
      ⟨_, none, none, rfl, Same.refl _, s4.tail⟩ (fun i σ G1 H1 ⟨_, _, e1, e3, s1⟩ => ⟨e3, s1.same⟩) (fun i d x σ G5 H5 G6 H6 hi ⟨y5, y6, e1, e3, s5⟩ g6 hy hx => ?_) (fun σ G5 H5 ⟨y5, y6, e1, e3, s5⟩ => ?_)⟩
    · subst e1
      obtain ⟨pr, hpr, rfl⟩ := map_get hy
      obtain ⟨t, rfl, ht⟩ := dp_pairI hx
      have s6 := s5.grow g6
      obtain ⟨k, hk, hkl⟩ := hU pr (List.mem_of_getElem? hpr)
      obtain ⟨gp, pl⟩ := pr
      simp only at hk
      subst hk
      have hln := lower_fold_len size (((orderOf gaps).drop (cutOf size gaps)).take i) gaps
      refine ⟨t, _, rfl, Same.tup s6.same ht, rfl, _, _, rfl, _, _, rfl, rfl, ?_⟩
      refine ⟨_, rfl, _, rfl, _, _, rfl, rfl, .ref F, rfl, _, rfl, F, _, _, k, rfl, rfl, s6.o 0 rfl, ?_, ?_⟩
      · have := ixN_nn (n := (((((orderOf gaps).drop (cutOf size gaps)).take i).foldl (lower size) gaps).map V.int).length) (i := (k : Int)) (by omega) (by rw [List.length_map, hln]; omega)
        rw [Int.toNat_natCast] at this
        exact this
      · have ef : (((orderOf gaps).drop (cutOf size gaps)).take (i + 1)).foldl (lower size) gaps = lower size ((((orderOf gaps).drop (cutOf size gaps)).take i).foldl (lower size) gaps) (gp, (k : Int)) := by
          rw [List.take_add_one, hpr, List.foldl_append]; rfl
        refine ⟨G6, _, _, rfl, e3.trans g6.g, ?_⟩
        rw [ef]
        have s7 := s6.put 0 rfl (.lst ((((((orderOf gaps).drop (cutOf size gaps)).take i).foldl (lower size) gaps).map V.int).set k (.int (gp - size))))
        rw [int_set] at s7
        have el : lower size ((((orderOf gaps).drop (cutOf size gaps)).take i).foldl (lower size) gaps) (gp, (k : Int)) = ((((orderOf gaps).drop (cutOf size gaps)).take i).foldl (lower size) gaps).set k (gp - size) := by
          unfold lower; rw [Int.toNat_natCast]
        rw [el]
        show S K G H [(.ref a, dI gaps)] _ G6 (upd H6 F (.lst ((((((orderOf gaps).drop (cutOf size gaps)).take i).foldl (lower size) gaps).map V.int).set k (.int (gp - size)))))
        rw [int_set]
        exact s7
    · subst e1
      rw [List.length_map, List.take_of_length_le (Nat.le_refl _)] at s5
      have hys5 := AllR.mono (fun v x h => Tp2.mono _ _ v x e3 h) hys4
      have ec : ((orderOf gaps).drop (cutOf size gaps)).foldl (lower size) gaps = changesOf size gaps := rfl
      rw [ec] at s5
      -- return (found, order[..][0])
      have hidx : ((ys.length : Nat) : Int) - manyOf size gaps - 1 = ((cutOf size gaps - 1 : Nat) : Int) := by rw [hysl]; omega
      have hlt : cutOf size gaps - 1 < (orderOf gaps).length := by rw [ol]; omega
      obtain ⟨v, hv1, t, rfl, ht⟩ := AllR.get hys5 (List.getElem?_eq_getElem hlt)
      have hmk : ((orderOf gaps)[cutOf size gaps - 1]).1 = markOf size gaps := by
        unfold markOf
        rw [List.getD_eq_getElem?_getD, List.getElem?_eq_getElem hlt]; rfl
      rw [hmk] at ht
      refine ⟨.ref F, rfl, .ref p, rfl, .ref p, rfl, p, _, rfl, .inl (SqL.of (s5.o 1 rfl)), _, rfl, _, _, rfl, rfl, _, _, rfl, rfl, p, _, _, .ref t, rfl, rfl, SqL.of (s5.o 1 rfl), ?_, ?_⟩
      · rw [hidx]
        exact atI_nat hv1
      · refine ⟨t, _, 0, .int (markOf size gaps), rfl, rfl, .inl (.inl (s5.same _ _ ht)), rfl, small3 (by show 2 ≤ 100000; decide), fun r hr2 => ?_⟩
        have s6 := s5.new (o := .tup [.ref F, .int (markOf size gaps)]) hr2
        exact q r F _ _ s6.gr (s6.oh 0 rfl) (s6.oh 1 rfl) (s6.og 0 rfl) (s6.og 1 rfl) (s6.o 0 rfl) (s6.o 1 rfl)
end Dial

namespace Dial
open PySem PySem.Spec PyProof.Rows L2 Dr DM
variable {P : Program} {w : World} {K : PySem.W.Frag} {mg : Str → Option Value} {base : Heap}
theorem eSize_int {d : PyData} (h : eSize d = true) : ∃ n, d = .int n ∧ 2 ≤ n := by
  cases d <;> first | exact ⟨_, rfl, of_decide_eq_true h⟩ | cases h
theorem eSize_no {n : Int} (h : eSize (.int n) = false) : ¬ 2 ≤ n := of_decide_eq_false h
theorem eRow_list {size : Int} {d : PyData} (h : eRow size d = true) : ∃ ds, d = .list ds := by
  cases d <;> first | exact ⟨_, rfl⟩ | cases h
inductive TwoBad : PyData → PyData → PyData → Nat → Prop
  | size {d0 d1 d2 : PyData} (h : eSize d0 = false) : TwoBad d0 d1 d2 0
  | one {size : Int} {d1 d2 : PyData} (h : 2 ≤ size) (h1 : eRow size d1 = false) : TwoBad (.int size) d1 d2 1
  | other {size : Int} {d1 d2 : PyData} (h : 2 ≤ size) (h1 : eRow size d1 = true) (h2 : eRow size d2 = false) : TwoBad (.int size) d1 d2 1
  | unlike {size : Int} {l1 l2 : List PyData} (h : 2 ≤ size) (h1 : eRow size (.list l1) = true) (h2 : eRow size (.list l2) = true) (h3 : l1.length ≠ l2.length) : TwoBad (.int size) (.list l1) (.list l2) 3
def TwoFine (d0 d1 d2 : PyData) : Prop := ∃ size l1 l2, d0 = .int size ∧ d1 = .list l1 ∧ d2 = .list l2 ∧ 2 ≤ size ∧ eRow size (.list l1) = true ∧ eRow size (.list l2) = true ∧ l1.length = l2.length
/-! asked_two -/
def sp_asked_two (K : PySem.W.Frag) (ec : Nat → Addr) : Sp := fun vs H Q E => ∃ (G : Hp) (d0 d1 d2 : PyData) (v0 v1 v2 : V), vs = [v0, v1, v2] ∧ Same G H ∧ Dp K G v0 d0 ∧ Dp K G v1 d1 ∧ Dp K G v2 d2 ∧ shortD d1 ∧ shortD d2 ∧
  ((∃ k, TwoBad d0 d1 d2 k ∧ RtX G H (ec k) E) ∨ (TwoFine d0 d1 d2 ∧ RtV G H .non Q))
theorem ok_asked_two (T : Txt K mg) : FnOk P w K mg base (L2.CX P w) 3 T.f_asked_two T.fd_asked_two ["size", "one", "other"] (sp_asked_two K (ecls T)) := by
  refine T.D_asked_two.F.okX sc_asked_two (fun vs H Q E h => ?_) (fun cdv A outer s H vs Q E hr h => ?_)
  · obtain ⟨G, d0, d1, d2, v0, v1, v2, rfl, _⟩ := h; rfl
  · obtain ⟨G, d0, d1, d2, v0, v1, v2, rfl, e, h0, h1, h2, hl1, hl2, q⟩ := h
    refine ⟨_, (pss_cons (ps_expr (pe_call (ok_asked_size T) (hr.mono (by decide)) (by rfl) T.D_asked_size.g T.D_asked_size.F.kp T.D_asked_size.b .nil (passes_call (takes_of rfl rfl rfl rfl) (fun _ _ _ _ h => h)) (pa_cons (pv 0) pa_nil)))
    (pss_cons (ps_expr (pe_call (ok_asked_row T) (hr.mono (by decide)) (by rfl) T.D_asked_row.g T.D_asked_row.F.kp T.D_asked_row.b .nil (passes_call (takes_of rfl rfl rfl rfl) (fun _ _ _ _ h => h)) (pa_cons (pv 0) (pa_cons (pv 1) pa_nil))))
    (pss_cons (ps_expr (pe_call (ok_asked_row T) (hr.mono (by decide)) (by rfl) T.D_asked_row.g T.D_asked_row.F.kp T.D_asked_row.b .nil (passes_call (takes_of rfl rfl rfl rfl) (fun _ _ _ _ h => h)) (pa_cons (pv 0) (pa_cons (pv 2) pa_nil))))
    (pss_one (ps_if (pt_cmpR op_ne (pe_callB (id := "len") (r := rLen K) call_lenK (by rfl) T.z_len PySem.boot_len (pa_cons (pv 1) pa_nil)) (pe_callB (id := "len") (r := rLen K) call_lenK (by rfl) T.z_len PySem.boot_len (pa_cons (pv 2) pa_nil)) (nomark _)) (pss_one (ps_raise rfl (takes_of rfl rfl rfl rfl) (pmk_own PySem.F.excBase_ValueError T.X_Unlike.x T.X_Unlike.g T.X_Unlike.k (raises_own T.X_Unlike.b T.X_Unlike.t) (by rfl)))) pss_nil))))), ?_⟩
    have hbad : ∀ k, TwoBad d0 d1 d2 k → RtX G H (ecls T k) E := fun k hk => by
      rcases q with ⟨k', hk', q⟩ | ⟨⟨size, l1, l2, rfl, rfl, rfl, f1, f2, f3, f4⟩, q⟩
      · have z : k = k' := by
          cases hk with
          | size z =>
            cases hk' with
            | size _ => rfl
            | one y _ => exact absurd y (eSize_no z)
            | other y _ _ => exact absurd y (eSize_no z)
            | unlike y _ _ _ => exact absurd y (eSize_no z)
          | one y1 y2 =>
            cases hk' with
            | size z => exact absurd y1 (eSize_no z)
            | one _ _ => rfl
            | other _ _ _ => rfl
            | unlike _ z _ _ => rw [y2] at z; cases z
          | other y1 y2 y3 =>
            cases hk' with
            | size z => exact absurd y1 (eSize_no z)
            | one _ _ => rfl
            | other _ _ _ => rfl
            | unlike _ _ z _ => rw [y3] at z; cases z
          | unlike y1 y2 y3 y4 =>
            cases hk' with
            | size z => exact absurd y1 (eSize_no z)
            | one _ z => rw [y2] at z; cases z
            | other _ _ z => rw [y3] at z; cases z
            | unlike _ _ _ _ => rfl
        rw [z]; exact q
      · cases hk with
        | size z => exact absurd f1 (eSize_no z)
        | one _ z => rw [f2] at z; cases z
        | other _ _ z => rw [f3] at z; cases z
        | unlike _ _ _ z => exact absurd f4 z
    refine ⟨_, rfl, G, d0, v0, rfl, e, h0, fun hs G1 H1 g1 => ?_, fun hs => hbad 0 (.size hs)⟩
    obtain ⟨n, rfl, hn⟩ := eSize_int hs
    cases dp_int h0
    refine ⟨_, rfl, _, rfl, G1, n, d1, v1, rfl, g1.s, Dp.mono g1.g _ _ h1, hl1, fun hr1 G2 H2 g2 => ?_, fun hr1 => (hbad 1 (.one hn hr1)).grow g1⟩
    have g12 := g1.trans g2
    refine ⟨_, rfl, _, rfl, G2, n, d2, v2, rfl, g12.s, Dp.mono g12.g _ _ h2, hl2, fun hr2 G3 H3 g3 => ?_, fun hr2 => (hbad 1 (.other hn hr1 hr2)).grow g12⟩
    have g13 := g12.trans g3
    obtain ⟨l1, rfl⟩ := eRow_list hr1
    obtain ⟨l2, rfl⟩ := eRow_list hr2
    obtain ⟨a, xs, rfl, hq1, hx1⟩ := dp_list (Dp.mono g13.g _ _ h1)
    obtain ⟨b, ys, rfl, hq2, hx2⟩ := dp_list (Dp.mono g13.g _ _ h2)
    refine ⟨_, rfl, a, _, rfl, .inl (g13.s.seq hq1), _, rfl, b, _, rfl, .inl (g13.s.seq hq2), rfl, _, rfl, ?_⟩
    rw [DpAll.len hx1, DpAll.len hx2]
    by_cases hl : l1.length = l2.length
    · rw [hl, decide_eq_true rfl]
      rcases q with ⟨k', hk', q⟩ | ⟨_, q⟩
      · cases hk' with
        | size z => rw [hs] at z; cases z
        | one _ z => rw [hr1] at z; cases z
        | other _ _ z => rw [hr2] at z; cases z
        | unlike _ _ _ z => exact absurd hl z
      · exact q _ _ g13
    · rw [decide_eq_false (fun z => hl (by have := V.int.inj z; omega))]
      exact (hbad 3 (.unlike hn hr1 hr2 hl)) _ _ g13
/-! asked_deeds -/
def sp_asked_deeds (K : PySem.W.Frag) (ec : Nat → Addr) : Sp := fun vs H Q E => ∃ (G : Hp) (n : Nat) (d : PyData) (v : V), vs = [.int n, v] ∧ Same G H ∧ Dp K G v d ∧ (eDeeds n d = true → RtV G H .non Q) ∧ (eDeeds n d = false → RtX G H (ec 2) E)
theorem eDeeds_of {n : Int} {ds : List PyData} {d : PyData} (h : d ∈ ds) (h1 : eDeed n d = false) : eDeeds n (.list ds) = false := by
  show ds.all (eDeed n) = false
  rw [List.all_eq_false]
  exact ⟨d, h, by rw [h1]; exact Bool.false_ne_true⟩
theorem ok_asked_deeds (T : Txt K mg) : FnOk P w K mg base (L2.CX P w) 2 T.f_asked_deeds T.fd_asked_deeds ["many", "deeds"] (sp_asked_deeds K (ecls T)) := by
  refine T.D_asked_deeds.F.okX sc_asked_deeds (fun vs H Q E h => ?_) (fun cdv A outer s H vs Q E hr h => ?_)
  · obtain ⟨G, n, d, v, rfl, _⟩ := h; rfl
  · obtain ⟨G, n, d, v, rfl, e, hd, q1, q2⟩ := h
    have s : S K G H [] [] G H := S.start e (fun _ h => nomatch h)
    refine ⟨_, (pss_cons (ps_if (pt_not (pt_val (pe_callB (id := "isinstance") (r := rIsi K) call_isi (by rfl) T.z_isinstance (by decide +kernel) (pa_cons (pv 1) (pa_cons (pe_bltn (v := .ty "list") (by rfl) T.z_list (by decide +kernel) rfl) pa_nil))))) (pss_one (ps_raise rfl (takes_of rfl rfl rfl rfl) (pmk_own PySem.F.excBase_ValueError T.X_BadDeeds.x T.X_BadDeeds.g T.X_BadDeeds.k (raises_own T.X_BadDeeds.b T.X_BadDeeds.t) (by rfl)))) pss_nil)
    (pss_one (ps_for (passes_of rfl) rfl (pi_list (pv 1)) (pg_name (i := 2) sc_asked_deeds.nd rfl (Or.inl rfl)) (pss_cons (ps_if (PW.pt (pw_or (pt_not (pt_val (pe_callB (id := "isinstance") (r := rIsi K) call_isi (by rfl) T.z_isinstance (by decide +kernel) (pa_cons (pv 2) (pa_cons (pe_bltn (v := .ty "tuple") (by rfl) T.z_tuple (by decide +kernel) rfl) pa_nil))))) (pw_or (pt_cmpR op_ne (pe_callB (id := "len") (r := rLen K) call_lenK (by rfl) T.z_len PySem.boot_len (pa_cons (pv 2) pa_nil)) pe_int (nomark _)) (pw_or1 (pt_not (pt_val (pe_callB (id := "all") (r := rAll K) (cr_all rfl) (by rfl) T.z_all (by decide +kernel) (pa_cons (pe_lc (own := [("one", 3)]) (g := gName 3) (tt := tYes) rfl sc_asked_deeds.nd (pi_tup (pv 2)) (blkOk_by (own := [("one", 3)]) (N := N_asked_deeds) (sc := defScope s_asked_deeds) (by decide +kernel)) (fun _ _ _ _ _ => pg_name (i := 3) sc_asked_deeds.nd rfl (Or.inl rfl)) (fun _ _ _ _ _ => pts_nil) (fun _ _ _ _ _ => (pe_call (ok_is_number T) (hr.mono (by decide)) (by rfl) T.D_is_number.g T.D_is_number.F.kp T.D_is_number.b .nil pass0 (pa_cons (pv 3) pa_nil)))) pa_nil)))))))) (pss_one (ps_raise rfl (takes_of rfl rfl rfl rfl) (pmk_own PySem.F.excBase_ValueError T.X_BadDeeds.x T.X_BadDeeds.g T.X_BadDeeds.k (raises_own T.X_BadDeeds.b T.X_BadDeeds.t) (by rfl)))) pss_nil)
      (pss_one (ps_if (pt_not (pt_val (pe_call (ok_is_deed T) (hr.mono (by decide)) (by rfl) T.D_is_deed.g T.D_is_deed.F.kp T.D_is_deed.b .nil pass0 (pa_cons (pv 0) (pa_cons (pe_ix (r := rIxT K) ix_tup (pv 2) pe_int (fun _ _ => rfl)) (pa_cons (pe_ix (r := rIxT K) ix_tup (pv 2) pe_int (fun _ _ => rfl)) (pa_cons (pe_ix (r := rIxT K) ix_tup (pv 2) pe_int (fun _ _ => rfl)) pa_nil))))))) (pss_one (ps_raise rfl (takes_of rfl rfl rfl rfl) (pmk_own PySem.F.excBase_ValueError T.X_BadDeeds.x T.X_BadDeeds.g T.X_BadDeeds.k (raises_own T.X_BadDeeds.b T.X_BadDeeds.t) (by rfl)))) pss_nil)))))), ?_⟩
    refine ⟨_, rfl, _, _, _, _, isLst d, rfl, .ty _, dp_tyx (Dp.mono e _ _ hd), kit_list d, isLst d, rfl, ?_⟩
    cases hL : isLst d with
    | false =>
      have z : eDeeds n d = false := by cases d <;> first | rfl | cases hL
      exact q2 z _ _ (Gr.refl e)
    | true =>
      obtain ⟨ds, rfl⟩ : ∃ ds, d = .list ds := by cases d <;> first | exact ⟨_, rfl⟩ | cases hL
      obtain ⟨a, xs, rfl, hq, ha⟩ := dp_list hd
      refine ⟨.ref a, rfl, a, rfl, ⟨_, e.seq hq⟩, for_wk (wk_list hq ha) (fun i σ G1 H1 => ∃ y, σ = [some (.int n), some (.ref a), y, none] ∧ S K G H [] [] G1 H1 ∧ ∀ x ∈ ds.take i, eDeed n x = true)
        ⟨G, none, rfl, s, fun x hx => by rw [List.take_zero] at hx; cases hx⟩ (fun i σ G1 H1 ⟨y, e1, s1, _⟩ => ⟨s1.gr.g, s1.same⟩) (fun i d x σ G1 H1 G2 H2 hi ⟨y, e1, s1, hall⟩ g2 hy hx => ?_) (fun σ G1 H1 ⟨y, e1, s1, hall⟩ => ?_)⟩
      · subst e1
        have s2 := (s1.grow g2).add hx
        have hmem : d ∈ ds := List.mem_of_getElem? hy
        have bad : eDeed n d = false → ∀ G3 H3, Gr G2 H2 G3 H3 → E (.ref T.c_BadDeeds) none H3 := fun z G3 H3 g3 => q2 (eDeeds_of hmem z) _ _ ((s1.grow g2).gr.trans g3)
        refine ⟨_, rfl, _, _, _, _, isTup d, rfl, .ty _, dp_tyx (s2.h 0 rfl), kit_tup d, isTup d, rfl, ?_⟩
        cases hT : isTup d with
        | false =>
          have z : eDeed n d = false := by cases d <;> first | rfl | cases hT
          exact bad z _ _ (Gr.refl s2.same)
        | true =>
          obtain ⟨es, rfl⟩ : ∃ es, d = .tuple es := by cases d <;> first | exact ⟨_, rfl⟩ | cases hT
          obtain ⟨p, ys, rfl, hp, hys⟩ := dp_tuple hx
          refine ⟨_, rfl, p, _, rfl, .inr (Same.tup s2.same hp), rfl, _, rfl, ?_⟩
          rw [DpAll.len hys]
          by_cases h3 : es.length = 3
          · rw [h3, decide_eq_true (show V.int ((3 : Nat) : Int) = V.int 3 from rfl)]
            refine ⟨.ref p, rfl, p, rfl, ⟨_, Same.tup s2.same hp⟩, fun D hD => lc_wk (wk_tup hp hys) s2 hD (Same.refl _) (small (by omega)) ((es.map isNum).map PyData.bool) (by rw [List.length_map, List.length_map]) (fun i d x G1 H1 hi hy s1 hx R k => ?_) (fun xs G1 H1 s3 hxs => ?_)⟩
            · refine ⟨rfl, _, rfl, _, d, x, rfl, s1.same, hx, ?_⟩
              exact k _ _ _ (.bool (isNum d)) (Gr.refl s1.same) (by rw [List.getElem?_map, List.getElem?_map, hy]; rfl) (.bl _)
            rw [dpAll_bools hxs] at s3
            refine ⟨D, _, rfl, SqL.of (s3.o 0 rfl), _, rfl, ?_⟩
            have e1 : ((es.map isNum).all id) = es.all isNum := by rw [List.all_map]; rfl
            rw [e1]
            cases hA : es.all isNum with
            | false =>
              have z : eDeed n (.tuple es) = false := by
                match es, h3 with
                | [x, y, z], _ =>
                  cases x <;> cases y <;> cases z <;> first | rfl | cases hA
              exact q2 (eDeeds_of hmem z) _ _ s3.gr
            | true =>
              obtain ⟨t, rfl⟩ : ∃ t : Deed, es = [.int t.1, .int t.2.1, .int t.2.2] := by
                match es, h3 with
                | [x, y, z], _ =>
                  cases x <;> cases y <;> cases z <;> first | exact ⟨(_, _, _), rfl⟩ | cases hA
              obtain ⟨p', e2, hp3⟩ := dp_d3 (t := t) (s3.g 0 rfl)
              cases e2
              have hp4 := Same.tup s3.same hp3
              refine ⟨_, rfl, _, rfl, p, _, 0, _, rfl, rfl, hp4, rfl, _, rfl, p, _, 1, _, rfl, rfl, hp4, rfl, _, rfl, p, _, 2, _, rfl, rfl, hp4, rfl, n, t, rfl, isDeed n t, rfl, ?_⟩
              have z : eDeed n (.tuple [.int t.1, .int t.2.1, .int t.2.2]) = isDeed n t := rfl
              cases hD : isDeed n t with
              | false => exact q2 (eDeeds_of hmem (z.trans hD)) _ _ s3.gr
              | true =>
                refine ⟨_, _, rfl, s3.drop.tail, fun x hx => ?_⟩
                rw [List.take_add_one, hy] at hx
                rcases List.mem_append.mp hx with hx | hx
                · exact hall x hx
                · rcases List.mem_singleton.mp hx with rfl
                  exact z.trans hD
          · rw [decide_eq_false (fun z => h3 (by have := V.int.inj z; omega))]
            have z : eDeed n (.tuple es) = false := by
              match es, h3 with
              | [], _ => rfl
              | [x], _ => cases x <;> rfl
              | [x, y], _ => cases x <;> first | rfl | (cases y <;> rfl)
              | [x, y, z], h3 => exact absurd rfl h3
              | x :: y :: z :: u :: r, _ => cases x <;> first | rfl | (cases y <;> first | rfl | (cases z <;> rfl))
            exact bad z _ _ (Gr.refl s2.same)
      · subst e1
        rw [List.take_of_length_le (Nat.le_refl _)] at hall
        exact q1 (List.all_eq_true.mpr hall) _ _ s1.gr
end Dial

namespace Dial
open PySem PySem.Spec PyProof.Rows L2 Dr DM
variable {P : Program} {w : World} {K : PySem.W.Frag} {mg : Str → Option Value} {base : Heap}
inductive TurnBad : PyData → PyData → PyData → Nat → Prop
  | size {d0 d1 d2 : PyData} (h : eSize d0 = false) : TurnBad d0 d1 d2 0
  | row {size : Int} {d1 d2 : PyData} (h : 2 ≤ size) (h1 : eRow size d1 = false) : TurnBad (.int size) d1 d2 1
  | deeds {size : Int} {l1 : List PyData} {d2 : PyData} (h : 2 ≤ size) (h1 : eRow size (.list l1) = true) (h2 : eDeeds l1.length d2 = false) : TurnBad (.int size) (.list l1) d2 2
inductive LevelBad : PyData → PyData → Nat → Prop
  | size {d0 d1 : PyData} (h : eSize d0 = false) : LevelBad d0 d1 0
  | row {size : Int} {d1 : PyData} (h : 2 ≤ size) (h1 : eRow size d1 = false) : LevelBad (.int size) d1 1
theorem eDeeds_ok {n : Nat} {ds : List Deed} (h : ∀ d ∈ ds, Okd n d) : eDeeds n (dT ds) = true := by
  show (ds.map d3).all (eDeed n) = true
  rw [List.all_map, List.all_eq_true]
  intro x hx
  exact isDeed_iff.mpr (h x hx)
theorem fine_ints {size : Int} {one other : List Int} (hs : 2 ≤ size) (h1 : InR size one) (h2 : InR size other) (hl : one.length = other.length) : TwoFine (.int size) (dI one) (dI other) :=
  ⟨size, one.map .int, other.map .int, rfl, rfl, rfl, hs, eRow_ints h1, eRow_ints h2, by rw [List.length_map, List.length_map, hl]⟩
theorem short_ints {ns : List Int} (h : ns.length ≤ 1000) : shortD (dI ns) := by
  show (ns.map PyData.int).length ≤ 1000
  rw [List.length_map]; exact h
/-! turned -/
def sp_turned (K : PySem.W.Frag) (ec : Nat → Addr) : Sp := fun vs H Q E => ∃ (G : Hp) (d0 d1 d2 : PyData) (v0 v1 v2 : V), vs = [v0, v1, v2] ∧ Same G H ∧ Dp K G v0 d0 ∧ Dp K G v1 d1 ∧ Dp K G v2 d2 ∧ shortD d1 ∧
  ((∃ k, TurnBad d0 d1 d2 k ∧ RtX G H (ec k) E) ∨ (∃ (size : Int) (row : List Int) (ds : List Deed), d0 = .int size ∧ d1 = dI row ∧ d2 = dT ds ∧ (2 ≤ size ∧ row.length ≤ 1000 ∧ InR size row ∧ ∀ d ∈ ds, Okd row.length d) ∧ RtL K G H ((turnedBy size row ds).map .int) Q))
theorem ok_turned (T : Txt K mg) : FnOk P w K mg base (L2.CX P w) 3 T.f_turned T.fd_turned ["size", "row", "deeds"] (sp_turned K (ecls T)) := by
  refine T.D_turned.F.okX sc_turned (fun vs H Q E h => ?_) (fun cdv A outer s H vs Q E hr h => ?_)
  · obtain ⟨G, d0, d1, d2, v0, v1, v2, rfl, _⟩ := h; rfl
  · obtain ⟨G, d0, d1, d2, v0, v1, v2, rfl, e, h0, h1, h2, hl1, q⟩ := h
    refine ⟨_, (pss_cons (ps_expr (pe_call (ok_asked_size T) (hr.mono (by decide)) (by rfl) T.D_asked_size.g T.D_asked_size.F.kp T.D_asked_size.b .nil (passes_call (takes_of rfl rfl rfl rfl) (fun _ _ _ _ h => h)) (pa_cons (pv 0) pa_nil)))
    (pss_cons (ps_expr (pe_call (ok_asked_row T) (hr.mono (by decide)) (by rfl) T.D_asked_row.g T.D_asked_row.F.kp T.D_asked_row.b .nil (passes_call (takes_of rfl rfl rfl rfl) (fun _ _ _ _ h => h)) (pa_cons (pv 0) (pa_cons (pv 1) pa_nil))))
    (pss_cons (ps_expr (pe_call (ok_asked_deeds T) (hr.mono (by decide)) (by rfl) T.D_asked_deeds.g T.D_asked_deeds.F.kp T.D_asked_deeds.b .nil (passes_call (takes_of rfl rfl rfl rfl) (fun _ _ _ _ h => h)) (pa_cons (pe_callB (id := "len") (r := rLen K) call_lenK (by rfl) T.z_len PySem.boot_len (pa_cons (pv 1) pa_nil)) (pa_cons (pv 2) pa_nil))))
    (pss_one (ps_ret (pe_call (ok_turned_by T) (hr.mono (by decide)) (by rfl) T.D_turned_by.g T.D_turned_by.F.kp T.D_turned_by.b .nil pass0 (pa_cons (pv 0) (pa_cons (pv 1) (pa_cons (pv 2) pa_nil))))))))), ?_⟩
    rcases q with ⟨k, hk, q⟩ | ⟨size, row, ds, rfl, rfl, rfl, ⟨hs, hl, hin, hv⟩, q⟩
    · cases hk with
      | size z => exact ⟨_, rfl, G, d0, v0, rfl, e, h0, fun hs => (by rw [z] at hs; cases hs), fun _ => q⟩
      | @row size d1 d2 hs z =>
        cases dp_int h0
        refine ⟨_, rfl, G, .int size, _, rfl, e, h0, fun _ G1 H1 g1 => ?_, fun z => absurd hs (eSize_no z)⟩
        exact ⟨_, rfl, _, rfl, G1, size, d1, v1, rfl, g1.s, Dp.mono g1.g _ _ h1, hl1, fun hr1 => (by rw [z] at hr1; cases hr1), fun _ => q.grow g1⟩
      | @deeds size l1 d2 hs hr1 z =>
        cases dp_int h0
        refine ⟨_, rfl, G, .int size, _, rfl, e, h0, fun _ G1 H1 g1 => ?_, fun z => absurd hs (eSize_no z)⟩
        refine ⟨_, rfl, _, rfl, G1, size, .list l1, v1, rfl, g1.s, Dp.mono g1.g _ _ h1, hl1, fun _ G2 H2 g2 => ?_, fun z => (by rw [hr1] at z; cases z)⟩
        have g12 := g1.trans g2
        obtain ⟨a, xs, rfl, hq1, hx1⟩ := dp_list (Dp.mono g12.g _ _ h1)
        refine ⟨_, rfl, a, _, rfl, .inl (g12.s.seq hq1), _, rfl, G2, l1.length, d2, v2, ?_, g12.s, Dp.mono g12.g _ _ h2, fun y => (by rw [z] at y; cases y), fun _ => q.grow g12⟩
        rw [DpAll.len hx1]; rfl
    · cases dp_int h0
      refine ⟨_, rfl, G, .int size, _, rfl, e, h0, fun _ G1 H1 g1 => ?_, fun z => absurd hs (eSize_no z)⟩
      refine ⟨_, rfl, _, rfl, G1, size, dI row, v1, rfl, g1.s, Dp.mono g1.g _ _ h1, hl1, fun _ G2 H2 g2 => ?_, fun z => (by rw [eRow_ints hin] at z; cases z)⟩
      have g12 := g1.trans g2
      obtain ⟨a, rfl, hq⟩ := dp_ints (Dp.mono g12.g _ _ h1)
      refine ⟨_, rfl, a, _, rfl, .inl (g12.s.seq hq), _, rfl, G2, row.length, dT ds, v2, ?_, g12.s, Dp.mono g12.g _ _ h2, fun _ G3 H3 g3 => ?_, fun z => (by rw [eDeeds_ok hv] at z; cases z)⟩
      · rw [List.length_map]; rfl
      have g13 := g12.trans g3
      exact ⟨_, rfl, _, rfl, _, rfl, G3, size, row, ds, .ref a, v2, rfl, g13.s, Dp.mono g13.g _ _ h1, Dp.mono g13.g _ _ h2, ⟨by omega, hl, hv⟩, RtL.grow q g13⟩
/-! best, where it is refused -/
def sp_best (K : PySem.W.Frag) (ec : Nat → Addr) : Sp := fun vs H Q E => ∃ (G : Hp) (d0 d1 d2 : PyData) (v0 v1 v2 : V) (k : Nat), vs = [v0, v1, v2] ∧ Same G H ∧ Dp K G v0 d0 ∧ Dp K G v1 d1 ∧ Dp K G v2 d2 ∧ shortD d1 ∧ shortD d2 ∧ TwoBad d0 d1 d2 k ∧ RtX G H (ec k) E
theorem ok_best (T : Txt K mg) : FnOk P w K mg base (L2.CX P w) 4 T.f_best T.fd_best ["size", "one", "other"] (sp_best K (ecls T)) := by
  refine T.D_best.F.okX sc_best (fun vs H Q E h => ?_) (fun cdv A outer s H vs Q E hr h => ?_)
  · obtain ⟨G, d0, d1, d2, v0, v1, v2, k, rfl, _⟩ := h; rfl
  · obtain ⟨G, d0, d1, d2, v0, v1, v2, k, rfl, e, h0, h1, h2, hl1, hl2, hk, q⟩ := h
    refine ⟨_, (pss_cons (ps_expr (pe_call (ok_asked_two T) (hr.mono (by decide)) (by rfl) T.D_asked_two.g T.D_asked_two.F.kp T.D_asked_two.b .nil (passes_call (takes_of rfl rfl rfl rfl) (fun _ _ _ _ h => h)) (pa_cons (pv 0) (pa_cons (pv 1) (pa_cons (pv 2) pa_nil)))))
    (pss_cons ps_never
    (pss_one ps_never))), ?_⟩
    exact ⟨_, rfl, _, rfl, _, rfl, G, d0, d1, d2, v0, v1, v2, rfl, e, h0, h1, h2, hl1, hl2, .inl ⟨k, hk, q⟩⟩
/-! level, where it is refused -/
def sp_level (K : PySem.W.Frag) (ec : Nat → Addr) : Sp := fun vs H Q E => ∃ (G : Hp) (d0 d1 : PyData) (v0 v1 : V) (k : Nat), vs = [v0, v1] ∧ Same G H ∧ Dp K G v0 d0 ∧ Dp K G v1 d1 ∧ shortD d1 ∧ LevelBad d0 d1 k ∧ RtX G H (ec k) E
theorem ok_level (T : Txt K mg) : FnOk P w K mg base (L2.CX P w) 5 T.f_level T.fd_level ["size", "row"] (sp_level K (ecls T)) := by
  refine T.D_level.F.okX sc_level (fun vs H Q E h => ?_) (fun cdv A outer s H vs Q E hr h => ?_)
  · obtain ⟨G, d0, d1, v0, v1, k, rfl, _⟩ := h; rfl
  · obtain ⟨G, d0, d1, v0, v1, k, rfl, e, h0, h1, hl1, hk, q⟩ := h
    refine ⟨_, (pss_cons (ps_expr (pe_call (ok_asked_size T) (hr.mono (by decide)) (by rfl) T.D_asked_size.g T.D_asked_size.F.kp T.D_asked_size.b .nil (passes_call (takes_of rfl rfl rfl rfl) (fun _ _ _ _ h => h)) (pa_cons (pv 0) pa_nil)))
    (pss_cons (ps_expr (pe_call (ok_asked_row T) (hr.mono (by decide)) (by rfl) T.D_asked_row.g T.D_asked_row.F.kp T.D_asked_row.b .nil (passes_call (takes_of rfl rfl rfl rfl) (fun _ _ _ _ h => h)) (pa_cons (pv 0) (pa_cons (pv 1) pa_nil))))
    (pss_one ps_never))), ?_⟩
    cases hk with
    | size z => exact ⟨_, rfl, G, d0, v0, rfl, e, h0, fun hs => (by rw [z] at hs; cases hs), fun _ => q⟩
    | @row size d1 hs z =>
      cases dp_int h0
      refine ⟨_, rfl, G, .int size, _, rfl, e, h0, fun _ G1 H1 g1 => ?_, fun z => absurd hs (eSize_no z)⟩
      exact ⟨_, rfl, _, rfl, G1, size, d1, v1, rfl, g1.s, Dp.mono g1.g _ _ h1, hl1, fun hr1 => (by rw [z] at hr1; cases hr1), fun _ => q.grow g1⟩
theorem filter_posI : ∀ cs : List Int, (cs.filter fun x => decide (0 < x)).sum = (cs.map posI).sum
  | [] => rfl
  | c :: cs => by
    rw [List.map_cons, List.sum_cons, ← filter_posI cs, List.filter_cons]
    unfold posI
    by_cases h : 0 < c
    · rw [if_pos (decide_eq_true h), if_pos h, List.sum_cons]
    · rw [if_neg (by rw [decide_eq_false h]; exact Bool.false_ne_true), if_neg h]; omega
/-! apart -/
def sp_apart (K : PySem.W.Frag) (ec : Nat → Addr) : Sp := fun vs H Q E => ∃ (G : Hp) (d0 d1 d2 : PyData) (v0 v1 v2 : V), vs = [v0, v1, v2] ∧ Same G H ∧ Dp K G v0 d0 ∧ Dp K G v1 d1 ∧ Dp K G v2 d2 ∧ shortD d1 ∧ shortD d2 ∧
  ((∃ k, TwoBad d0 d1 d2 k ∧ RtX G H (ec k) E) ∨ (∃ (size : Int) (one other : List Int), d0 = .int size ∧ d1 = dI one ∧ d2 = dI other ∧ (2 ≤ size ∧ size < 2 ^ 107 ∧ InR size one ∧ InR size other ∧ one.length = other.length ∧ one.length ≤ 1000) ∧ RtV G H (.int (apartOf size one other)) Q))
theorem ok_apart (T : Txt K mg) : FnOk P w K mg base (L2.CX P w) 4 T.f_apart T.fd_apart ["size", "one", "other"] (sp_apart K (ecls T)) := by
  refine T.D_apart.F.okX sc_apart (fun vs H Q E h => ?_) (fun cdv A outer s H vs Q E hr h => ?_)
  · obtain ⟨G, d0, d1, d2, v0, v1, v2, rfl, _⟩ := h; rfl
  · obtain ⟨G, d0, d1, d2, v0, v1, v2, rfl, e, h0, h1, h2, hl1, hl2', q⟩ := h
    refine ⟨_, (pss_cons (ps_expr (pe_call (ok_asked_two T) (hr.mono (by decide)) (by rfl) T.D_asked_two.g T.D_asked_two.F.kp T.D_asked_two.b .nil (passes_call (takes_of rfl rfl rfl rfl) (fun _ _ _ _ h => h)) (pa_cons (pv 0) (pa_cons (pv 1) (pa_cons (pv 2) pa_nil)))))
    (pss_cons (ps_asg (pe_call (ok_grown T) (hr.mono (by decide)) (by rfl) T.D_grown.g T.D_grown.F.kp T.D_grown.b .nil pass0 (pa_cons (pv 0) (pa_cons (pe_call (ok_gaps_of T) (hr.mono (by decide)) (by rfl) T.D_gaps_of.g T.D_gaps_of.F.kp T.D_gaps_of.b .nil pass0 (pa_cons (pv 0) (pa_cons (pv 1) (pa_cons (pv 2) pa_nil)))) pa_nil))) (pg_tup rfl (pgs_cons (pg_name (i := 3) sc_apart.nd rfl (Or.inl rfl)) (pgs_cons (pg_name (i := 4) sc_apart.nd rfl (Or.inl rfl)) pgs_nil))))
    (pss_one (ps_ret (pe_callB (id := "sum") (r := rSum K) (cr_sum rfl) (by rfl) T.z_sum (by decide +kernel) (pa_cons (pe_lc (own := [("change", 5)]) (g := gName 5) (tt := _) rfl sc_apart.nd (pi_list (pv 3)) (blkOk_by (own := [("change", 5)]) (N := N_apart) (sc := defScope s_apart) (by decide +kernel)) (fun _ _ _ _ _ => pg_name (i := 5) sc_apart.nd rfl (Or.inl rfl)) (fun _ _ _ _ _ => pts_one (pt_cmpR op_gt (pv 5) pe_int (nomark _))) (fun _ _ _ _ _ => (pv 5))) pa_nil)))))), ?_⟩
    rcases q with ⟨k, hk, q⟩ | ⟨size, one, other, rfl, rfl, rfl, ⟨hs, hz, hi1, hi2, hl, hl2⟩, q⟩
    · exact ⟨_, rfl, _, rfl, _, rfl, G, d0, d1, d2, v0, v1, v2, rfl, e, h0, h1, h2, hl1, hl2', .inl ⟨k, hk, q⟩⟩
    cases dp_int h0
    have s0 : S K G H [(v1, dI one), (v2, dI other)] [] G H := S.start e (by
      intro p hp
      simp only [List.mem_cons, List.not_mem_nil, or_false] at hp
      rcases hp with rfl | rfl
      · exact h1
      · exact h2)
    refine ⟨_, rfl, _, rfl, _, rfl, G, .int size, dI one, dI other, _, v1, v2, rfl, e, h0, h1, h2, hl1, hl2', .inr ⟨fine_ints hs hi1 hi2 hl, fun G1 H1 g1 => ?_⟩⟩
    have s1 := s0.grow g1
    refine ⟨_, rfl, _, rfl, _, rfl, _, rfl, G1, size, one, other, v1, v2, rfl, s1.same, s1.g 0 rfl, s1.g 1 rfl, ⟨by omega, hl2, hl⟩, fun gl xg G2 H2 g2 h0 hg hh hd => ?_⟩
    have s2 := (s1.got g2 h0 hg hh).give hd
    have gl_len : (gapsOf size one other).length = one.length + 1 := gapsGo_len size one other 0 hl
    have gok : Gaps size (gapsOf size one other) := gapsOf_ok (by omega)
    have hcl : (changesOf size (gapsOf size one other)).length = one.length + 1 := best_len hl
    refine ⟨_, size, gapsOf size one other, .ref gl, rfl, s2.same, s2.g 0 rfl, ⟨gok, hz, by omega⟩, fun t c G3 H3 g3 ht hc gt gc ft fc => ?_⟩
    have s3 : S K G H [] [(c, .lst ((changesOf size (gapsOf size one other)).map V.int))] G3 H3 := ((s2.grow g3).sel []).own (s2.gr.h.free hc) gc fc (fun z => nomatch z)
    refine ⟨t, _, rfl, .inl (.inl ft), rfl, _, _, rfl, _, _, rfl, rfl, ?_⟩
    have hap : apartOf size one other = ((changesOf size (gapsOf size one other)).map posI).sum := rfl
    rw [hap] at q
    generalize changesOf size (gapsOf size one other) = cs at s3 hcl q
    -- sum([change for change in changes if change > 0])
    refine ⟨.ref c, rfl, c, rfl, ⟨_, SqL.of (s3.o 0 rfl)⟩, fun D hD => ?_⟩
    refine lc_it (walk_list (K := K) (a := c) (xs := cs.map V.int)) (fun i H' => ∃ G', S K G H [] [(D, .lst (((cs.take i).filter fun x => decide (0 < x)).map V.int)), (c, .lst (cs.map V.int))] G' H') ⟨_, s3.new hD⟩ (fun i H' _ ⟨G', s'⟩ => SqL.of (s'.o 1 rfl)) (fun i x H' H'' hi ⟨G', s'⟩ hy => ?_) (fun H' ⟨G', s'⟩ => ?_)
    · obtain ⟨rfl, hx⟩ := hy
      obtain ⟨n, hn, rfl⟩ := map_get hx
      have ef : (cs.take (i + 1)).filter (fun x => decide (0 < x)) = (cs.take i).filter (fun x => decide (0 < x)) ++ (if 0 < n then [n] else []) := by
        rw [List.take_add_one, hn, List.filter_append]
        congr 1
        show List.filter _ [n] = _
        rw [List.filter_cons]
        by_cases h : 0 < n
        · rw [if_pos (decide_eq_true h), if_pos h]; rfl
        · rw [if_neg (by rw [decide_eq_false h]; exact Bool.false_ne_true), if_neg h]; rfl
      refine ⟨rfl, _, rfl, n, 0, rfl, rfl, _, rfl, ?_⟩
      rw [ef]
      refine ite2 (fun z => ?_) (fun z => ?_)
      · have h : 0 < n := of_decide_eq_true z
        refine ⟨_, rfl, _, s'.o 0 rfl, ?_, G', ?_⟩
        · have := List.length_filter_le (fun x => decide (0 < x)) (cs.take i)
          rw [List.length_take] at this
          rw [List.length_map]
          exact small (by omega)
        · rw [if_pos h, List.map_append]
          exact s'.put 0 rfl _
      · have h : ¬ 0 < n := fun h => z (decide_eq_true h)
        rw [if_neg h, List.append_nil]
        exact ⟨G', s'⟩
    · rw [List.length_map, List.take_of_length_le (Nat.le_refl _)] at s'
      refine ⟨D, _, rfl, SqL.of (s'.o 0 rfl), ?_⟩
      rw [filter_posI]
      exact q _ _ s'.gr
/-! _law_ask -/
inductive AskBad : Int → PyData → PyData → PyData → Nat → Prop
  | d0 {s a b : PyData} {k : Nat} (h : TurnBad s a b k) : AskBad 0 s a b k
  | d1 {s a b : PyData} {k : Nat} (h : LevelBad s a k) : AskBad 1 s a b k
  | d2 {s a b : PyData} {k : Nat} (h : TwoBad s a b k) : AskBad 2 s a b k
  | d3 {s a b : PyData} {k : Nat} (h : TwoBad s a b k) : AskBad 3 s a b k
def sp__law_ask (K : PySem.W.Frag) (ec : Nat → Addr) : Sp := fun vs H Q E => ∃ (G : Hp) (door : Int) (d0 d1 d2 : PyData) (v0 v1 v2 : V) (k : Nat), vs = [.int door, v0, v1, v2] ∧ Same G H ∧ Dp K G v0 d0 ∧ Dp K G v1 d1 ∧ Dp K G v2 d2 ∧ shortD d1 ∧ shortD d2 ∧ AskBad door d0 d1 d2 k ∧ RtX G H (ec k) E
theorem ok__law_ask (T : Txt K mg) : FnOk P w K mg base (L2.CX P w) 6 T.f__law_ask T.fd__law_ask ["_law_door", "_law_size", "_law_one", "_law_other"] (sp__law_ask K (ecls T)) := by
  refine T.D__law_ask.F.okX sc__law_ask (fun vs H Q E h => ?_) (fun cdv A outer s H vs Q E hr h => ?_)
  · obtain ⟨G, door, d0, d1, d2, v0, v1, v2, k, rfl, _⟩ := h; rfl
  · obtain ⟨G, door, d0, d1, d2, v0, v1, v2, k, rfl, e, h0, h1, h2, hl1, hl2, hk, q⟩ := h
    refine ⟨_, (pss_cons (ps_if (pt_cmpR op_lt (pv 0) pe_int (nomark _)) (pss_one (ps_ret (pe_ifExp (pt_cmpR op_eq (pv 0) pe_int (nomark _)) (pe_call (ok_turned T) (hr.mono (by decide)) (by rfl) T.D_turned.g T.D_turned.F.kp T.D_turned.b .nil (passes_call (takes_of rfl rfl rfl rfl) (fun _ _ _ _ h => h)) (pa_cons (pv 1) (pa_cons (pv 2) (pa_cons (pv 3) pa_nil)))) (pe_call (ok_level T) (hr.mono (by decide)) (by rfl) T.D_level.g T.D_level.F.kp T.D_level.b .nil (passes_call (takes_of rfl rfl rfl rfl) (fun _ _ _ _ h => h)) (pa_cons (pv 1) (pa_cons (pv 2) pa_nil)))))) pss_nil)
    (pss_one (ps_ret (pe_ifExp (pt_cmpR op_eq (pv 0) pe_int (nomark _)) (pe_call (ok_best T) (hr.mono (by decide)) (by rfl) T.D_best.g T.D_best.F.kp T.D_best.b .nil (passes_call (takes_of rfl rfl rfl rfl) (fun _ _ _ _ h => h)) (pa_cons (pv 1) (pa_cons (pv 2) (pa_cons (pv 3) pa_nil)))) (pe_call (ok_apart T) (hr.mono (by decide)) (by rfl) T.D_apart.g T.D_apart.F.kp T.D_apart.b .nil (passes_call (takes_of rfl rfl rfl rfl) (fun _ _ _ _ h => h)) (pa_cons (pv 1) (pa_cons (pv 2) (pa_cons (pv 3) pa_nil)))))))), ?_⟩
    cases hk with
    | d0 hk =>
      refine ⟨_, rfl, 0, 2, rfl, rfl, _, rfl, _, rfl, rfl, _, rfl, ?_⟩
      exact ⟨_, rfl, _, rfl, _, rfl, G, d0, d1, d2, v0, v1, v2, rfl, e, h0, h1, h2, hl1, .inl ⟨k, hk, q⟩⟩
    | d1 hk =>
      refine ⟨_, rfl, 1, 2, rfl, rfl, _, rfl, _, rfl, rfl, _, rfl, ?_⟩
      exact ⟨_, rfl, _, rfl, G, d0, d1, v0, v1, k, rfl, e, h0, h1, hl1, hk, q⟩
    | d2 hk =>
      refine ⟨_, rfl, 2, 2, rfl, rfl, _, rfl, _, rfl, rfl, _, rfl, ?_⟩
      exact ⟨_, rfl, _, rfl, _, rfl, G, d0, d1, d2, v0, v1, v2, k, rfl, e, h0, h1, h2, hl1, hl2, hk, q⟩
    | d3 hk =>
      refine ⟨_, rfl, 3, 2, rfl, rfl, _, rfl, _, rfl, rfl, _, rfl, ?_⟩
      exact ⟨_, rfl, _, rfl, _, rfl, G, d0, d1, d2, v0, v1, v2, rfl, e, h0, h1, h2, hl1, hl2, .inl ⟨k, hk, q⟩⟩
end Dial

namespace Dial
open PySem PySem.Spec PyProof.Rows L2 Dr DM
variable {P : Program} {w : World} {K : PySem.W.Frag} {mg : Str → Option Value} {base : Heap}
/-- a statement, cut from what follows by what holds there -/
theorem seqCut {t u : TS} {D : Ends} {σ : L2.St} {H : Hp} (R : L2.St → Hp → Prop) (h : ∀ nx : L2.St → Hp → Prop, (∀ σ' H', R σ' H' → nx σ' H') → t { D with nx := nx } σ H) (k : ∀ σ' H', R σ' H' → u D σ' H') : tSeq t u D σ H := h (u D) k
theorem eRow_bad {size : Int} {ds : List PyData} {d : PyData} (h : d ∈ ds) (h1 : eFig size d = false) : eRow size (.list ds) = false := by
  show ds.all (eFig size) = false
  rw [List.all_eq_false]
  exact ⟨d, h, by rw [h1]; exact Bool.false_ne_true⟩
theorem rep_flat (m : Nat) (x : V) : (List.replicate m [x]).flatten = List.replicate m x := by
  induction m with
  | zero => rfl
  | succ m ih => rw [List.replicate_succ, List.replicate_succ, List.flatten_cons, ih]; rfl
theorem dpAll_rep {G : Hp} {x : V} {d : PyData} (h : Dp K G x d) : ∀ m, DpAll K G (List.replicate m x) (List.replicate m d)
  | 0 => .nil
  | m + 1 => .cons h (dpAll_rep h m)
/-! _law_rows_asked -/
def sp__law_rows_asked (K : PySem.W.Frag) (ec : Nat → Addr) : Sp := fun vs H Q E => ∃ (G : Hp) (which more : Int), vs = [.int which, .int more] ∧ Same G H ∧ 0 ≤ more ∧ more < 1000 ∧ RtX G H (ec 1) E
theorem ok__law_rows_asked (T : Txt K mg) : FnOk P w K mg base (L2.CX P w) 7 T.f__law_rows_asked T.fd__law_rows_asked ["_law_which", "_law_more"] (sp__law_rows_asked K (ecls T)) := by
  refine T.D__law_rows_asked.F.okX sc__law_rows_asked (fun vs H Q E h => ?_) (fun cdv A outer s H vs Q E hr h => ?_)
  · obtain ⟨G, which, more, rfl, _⟩ := h; rfl
  · obtain ⟨G, which, more, rfl, e, hm0, hm1, q⟩ := h
    have s0 : S K G H [] [] G H := S.start e (fun _ h => nomatch h)
    refine ⟨_, (pss_cons (ps_set (i := 2) sc__law_rows_asked.nd rfl (.inl rfl) (pe_ix (r := rIxL K) ix_list (pe_lst (pa_cons pe_non (pa_cons (pe_tup (pa_cons pe_int (pa_cons pe_int pa_nil))) (pa_cons pe_str (pa_cons pe_int (pa_cons (pe_lst (pa_cons (pe_op op_add pe_int (pv 1)) pa_nil)) (pa_cons (pe_lst (pa_cons (pe_op op_sub (pe_un un_neg pe_int) (pv 1)) pa_nil)) (pa_cons (pe_lst (pa_cons pe_bl pa_nil)) (pa_cons (pe_lst (pa_cons pe_str pa_nil)) (pa_cons (pe_lst (pa_cons pe_non pa_nil)) pa_nil)))))))))) (pe_op op_mod (pv 0) pe_int) (fun _ _ => rfl)))
    (pss_cons (ps_if (pt_val (pe_callB (id := "isinstance") (r := rIsi K) call_isi (by rfl) T.z_isinstance (by decide +kernel) (pa_cons (pv 2) (pa_cons (pe_bltn (v := .ty "list") (by rfl) T.z_list (by decide +kernel) rfl) pa_nil)))) (pss_one (ps_set (i := 2) sc__law_rows_asked.nd rfl (.inl rfl) (pe_op op_cat (pe_op op_cat (pe_lc (own := [("_law_dial", 4)]) (g := gName 4) (tt := tYes) rfl sc__law_rows_asked.nd (pi_range1 (by rfl) T.z_range (pa_cons (pe_op op_mod (pv 1) pe_int) pa_nil)) (blkOk_by (own := [("_law_dial", 4)]) (N := N__law_rows_asked) (sc := defScope s__law_rows_asked) (by decide +kernel)) (fun _ _ _ _ _ => pg_name (i := 4) sc__law_rows_asked.nd rfl (Or.inl rfl)) (fun _ _ _ _ _ => pts_nil) (fun _ _ _ _ _ => pe_int)) (pv 2)) (pe_op op_rep (pe_lst (pa_cons pe_int pa_nil)) (pe_op op_mod (pv 1) pe_int))))) pss_nil)
    (pss_cons (ps_set (i := 3) sc__law_rows_asked.nd rfl (.inl rfl) (pe_op op_mod (pe_op op_fdivW (pv 0) pe_int) pe_int))
    (pss_cons (ps_if (pt_cmpR op_lt (pv 3) pe_int (nomark _)) (pss_one (ps_ret (pe_call (ok__law_ask T) (hr.mono (by decide)) (by rfl) T.D__law_ask.g T.D__law_ask.F.kp T.D__law_ask.b .nil (passes_call (takes_of rfl rfl rfl rfl) (fun _ _ _ _ h => h)) (pa_cons (pv 3) (pa_cons pe_int (pa_cons (pv 2) (pa_cons pe_non pa_nil))))))) pss_nil)
    (pss_one (ps_ret (pe_ifExp (pt_cmpR op_eq (pv 3) pe_int (nomark _)) (pe_call (ok_best T) (hr.mono (by decide)) (by rfl) T.D_best.g T.D_best.F.kp T.D_best.b .nil (passes_call (takes_of rfl rfl rfl rfl) (fun _ _ _ _ h => h)) (pa_cons pe_int (pa_cons (pe_lst (pa_cons pe_int (pa_cons pe_int pa_nil))) (pa_cons (pv 2) pa_nil)))) (pe_call (ok_apart T) (hr.mono (by decide)) (by rfl) T.D_apart.g T.D_apart.F.kp T.D_apart.b .nil (passes_call (takes_of rfl rfl rfl rfl) (fun _ _ _ _ h => h)) (pa_cons pe_int (pa_cons (pe_lst (pa_cons pe_int (pa_cons pe_int pa_nil))) (pa_cons (pv 2) pa_nil))))))))))), ?_⟩
    -- bad = [..][which % 9]
    refine seqCut (fun σ' H' => ∃ v G', σ' = [some (.int which), some (.int more), some v, none, none] ∧ ((∃ d, S K G H [(v, d)] [] G' H' ∧ isLst d = false) ∨ (∃ l x dx, v = .ref l ∧ S K G H [(x, dx)] [(l, .lst [x])] G' H' ∧ eFig 10 dx = false))) (fun nx k => ?_) (fun σ1 H1 hR => ?_)
    · refine ⟨small3 (by show 2 ≤ 100000; decide), fun t ht => ?_⟩
      have s1 := s0.tup (ds := [.int 1, .int 2]) ht (.cons (.int _) (.cons (.int _) .nil))
      refine ⟨_, rfl, _, _, rfl, rfl, small3 (by show 1 ≤ 100000; decide), fun l1 hl1 => ?_⟩
      have s2 := s1.new (o := .lst [V.int (10 + more)]) hl1
      refine ⟨_, rfl, _, rfl, _, _, rfl, rfl, small3 (by show 1 ≤ 100000; decide), fun l2 hl2 => ?_⟩
      have s3 := s2.new (o := .lst [V.int (-1 - more)]) hl2
      refine ⟨small3 (by show 1 ≤ 100000; decide), fun l3 hl3 => ?_⟩
      have s4 := s3.new (o := .lst [V.bl true]) hl3
      refine ⟨small3 (by show 1 ≤ 100000; decide), fun l4 hl4 => ?_⟩
      have s5 := s4.new (o := .lst [V.str "1"]) hl4
      refine ⟨small3 (by show 1 ≤ 100000; decide), fun l5 hl5 => ?_⟩
      have s6 := s5.new (o := .lst [V.non]) hl5
      refine ⟨small3 (by show 9 ≤ 100000; decide), fun L hL => ?_⟩
      have s7 := S.tupO (o := .lst [V.non, .ref t, .str "12", .int 5, .ref l1, .ref l2, .ref l3, .ref l4, .ref l5]) s6 hL
      have hj : which % 9 = 0 ∨ which % 9 = 1 ∨ which % 9 = 2 ∨ which % 9 = 3 ∨ which % 9 = 4 ∨ which % 9 = 5 ∨ which % 9 = 6 ∨ which % 9 = 7 ∨ which % 9 = 8 := by omega
      rcases hj with hj | hj | hj | hj | hj | hj | hj | hj | hj
      · refine ⟨_, rfl, _, _, rfl, rfl, (by show (0 : Int) < 9; decide), L, _, 0, _, rfl, congrArg V.int hj, SqL.of upd_same, atI_nat (j := 0) rfl, ?_⟩
        exact k _ _ ⟨_, _, rfl, .inl ⟨.none, s7.only.tail.add .non, rfl⟩⟩
      · refine ⟨_, rfl, _, _, rfl, rfl, (by show (0 : Int) < 9; decide), L, _, 1, _, rfl, congrArg V.int hj, SqL.of upd_same, atI_nat (j := 1) rfl, ?_⟩
        exact k _ _ ⟨_, _, rfl, .inl ⟨_, s7.only, rfl⟩⟩
      · refine ⟨_, rfl, _, _, rfl, rfl, (by show (0 : Int) < 9; decide), L, _, 2, _, rfl, congrArg V.int hj, SqL.of upd_same, atI_nat (j := 2) rfl, ?_⟩
        exact k _ _ ⟨_, _, rfl, .inl ⟨.str "12", s7.only.tail.add (.str _), rfl⟩⟩
      · refine ⟨_, rfl, _, _, rfl, rfl, (by show (0 : Int) < 9; decide), L, _, 3, _, rfl, congrArg V.int hj, SqL.of upd_same, atI_nat (j := 3) rfl, ?_⟩
        exact k _ _ ⟨_, _, rfl, .inl ⟨.int 5, s7.only.tail.add (.int _), rfl⟩⟩
      · refine ⟨_, rfl, _, _, rfl, rfl, (by show (0 : Int) < 9; decide), L, _, 4, _, rfl, congrArg V.int hj, SqL.of upd_same, atI_nat (j := 4) rfl, ?_⟩
        exact k _ _ ⟨_, _, rfl, .inr ⟨l1, _, .int (10 + more), rfl, s7.drop.drop.drop.drop.tail.add (.int _), by show (decide (0 ≤ 10 + more) && decide (10 + more < 10)) = false; rw [decide_eq_false (show ¬ 10 + more < 10 by omega), Bool.and_false]⟩⟩
      · refine ⟨_, rfl, _, _, rfl, rfl, (by show (0 : Int) < 9; decide), L, _, 5, _, rfl, congrArg V.int hj, SqL.of upd_same, atI_nat (j := 5) rfl, ?_⟩
        exact k _ _ ⟨_, _, rfl, .inr ⟨l2, _, .int (-1 - more), rfl, s7.drop.drop.drop.swap.drop.tail.add (.int _), by show (decide (0 ≤ -1 - more) && decide (-1 - more < 10)) = false; rw [decide_eq_false (show ¬ 0 ≤ -1 - more by omega), Bool.false_and]⟩⟩
      · refine ⟨_, rfl, _, _, rfl, rfl, (by show (0 : Int) < 9; decide), L, _, 6, _, rfl, congrArg V.int hj, SqL.of upd_same, atI_nat (j := 6) rfl, ?_⟩
        exact k _ _ ⟨_, _, rfl, .inr ⟨l3, _, .bool true, rfl, s7.drop.drop.swap.drop.swap.drop.tail.add (.bl _), rfl⟩⟩
      · refine ⟨_, rfl, _, _, rfl, rfl, (by show (0 : Int) < 9; decide), L, _, 7, _, rfl, congrArg V.int hj, SqL.of upd_same, atI_nat (j := 7) rfl, ?_⟩
        exact k _ _ ⟨_, _, rfl, .inr ⟨l4, _, .str "1", rfl, s7.drop.swap.drop.swap.drop.swap.drop.tail.add (.str _), rfl⟩⟩
      · refine ⟨_, rfl, _, _, rfl, rfl, (by show (0 : Int) < 9; decide), L, _, 8, _, rfl, congrArg V.int hj, SqL.of upd_same, atI_nat (j := 8) rfl, ?_⟩
        exact k _ _ ⟨_, _, rfl, .inr ⟨l5, _, .none, rfl, s7.swap.drop.swap.drop.swap.drop.swap.drop.tail.add .non, rfl⟩⟩
    -- if isinstance(bad, list): ..
    refine seqCut (fun σ' H' => ∃ v d G', σ' = [some (.int which), some (.int more), some v, none, none] ∧ S K G H [(v, d)] [] G' H' ∧ eRow 10 d = false ∧ shortD d) (fun nx k => ?_) (fun σ2 H2 hR => ?_)
    · obtain ⟨v, G1, rfl, ⟨d, s1, hd⟩ | ⟨l, x, dx, rfl, s1, hd⟩⟩ := hR
      · refine ⟨_, rfl, _, _, _, _, isLst d, rfl, .ty _, dp_tyx (s1.h 0 rfl), kit_list d, isLst d, rfl, ?_⟩
        rw [hd]
        have z1 : eRow 10 d = false := by cases d <;> first | rfl | cases hd
        have z2 : shortD d := by cases d <;> first | trivial | cases hd
        exact k _ _ ⟨v, d, G1, rfl, s1, z1, z2⟩
      · refine ⟨_, rfl, _, _, _, _, true, rfl, .ty _, tyx_list (SqL.of (s1.o 0 rfl)), kit_ty (by decide +kernel), true, rfl, ?_⟩
        have m6 : 0 ≤ more % 6 ∧ more % 6 < 6 := by omega
        have m3 : 0 ≤ more % 3 ∧ more % 3 < 3 := by omega
        refine ⟨_, rfl, _, _, rfl, rfl, (by show (0 : Int) < 6; decide), _, rfl, ?_, ?_, ?_⟩
        · show -(2 ^ 62) ≤ more % 6; omega
        · show more % 6 < 2 ^ 62; omega
        refine fun D hD => lc_wk (G := G1) (wk_rng (G := G1)) s1 hD (Same.refl _) (small (by show (more % 6).toNat ≤ 100000; omega)) ((List.replicate (more % 6).toNat (3 : Int)).map PyData.int) (by rw [List.length_map, List.length_replicate]) (fun i d x G1 H1 hi hy s1 hx R k => ?_) (fun xs G2 H2 s2 hxs => ?_)
        · refine ⟨rfl, k _ _ _ (.int 3) (Gr.refl s1.same) ?_ (.int 3)⟩
          rw [List.map_replicate, List.getElem?_replicate, if_pos (by exact hi)]
        rw [ints_dpAll hxs] at s2
        clear hxs
        refine ⟨_, rfl, D, l, _, _, rfl, rfl, s2.o 0 rfl, s2.o 1 rfl, small3 (by rw [List.length_map, List.length_replicate]; show (more % 6).toNat + 1 ≤ 100000; omega), fun c1 hc1 => ?_⟩
        have s3 := s2.only.new (o := .lst ((List.replicate (more % 6).toNat (3 : Int)).map V.int ++ [x])) hc1
        refine ⟨small3 (by show 1 ≤ 100000; decide), fun c2 hc2 => ?_⟩
        have s4 := s3.new (o := .lst [V.int 9]) hc2
        refine ⟨_, rfl, _, _, rfl, rfl, (by show (0 : Int) < 3; decide), c2, _, _, rfl, rfl, s4.o 0 rfl, (by show -(2 ^ 63) ≤ more % 3; omega), (by show more % 3 < 2 ^ 63; omega), small3 (by show 1 * (more % 3).toNat ≤ 100000; omega), fun c3 hc3 => ?_⟩
        have s5 := s4.new (o := .lst (List.replicate (more % 3).toNat [V.int 9]).flatten) hc3
        refine ⟨c1, c3, _, _, rfl, rfl, s5.o 2 rfl, s5.o 0 rfl, small3 (by rw [rep_flat, List.length_append, List.length_map, List.length_replicate, List.length_replicate]; show (more % 6).toNat + 1 + (more % 3).toNat ≤ 100000; omega), fun c4 hc4 => ?_⟩
        have hall : DpAll K G2 ((List.replicate (more % 6).toNat (3 : Int)).map V.int ++ [x] ++ (List.replicate (more % 3).toNat [V.int 9]).flatten) (List.replicate (more % 6).toNat (.int 3) ++ [dx] ++ List.replicate (more % 3).toNat (.int 9)) := by
          rw [rep_flat, List.map_replicate]
          exact DpAll.append (DpAll.append (dpAll_rep (.int 3) _) (DpAll.one (s5.g 0 rfl))) (dpAll_rep (.int 9) _)
        have s6 := s5.only.lst hc4 hall
        refine k _ _ ⟨_, _, _, rfl, s6.sel [0], eRow_bad (List.mem_append_left _ (List.mem_append_right _ List.mem_cons_self)) hd, ?_⟩
        show (List.replicate (more % 6).toNat (PyData.int 3) ++ [dx] ++ List.replicate (more % 3).toNat (PyData.int 9)).length ≤ 1000
        rw [List.length_append, List.length_append, List.length_replicate, List.length_replicate]
        show (more % 6).toNat + 1 + (more % 3).toNat ≤ 1000
        omega
    -- the doors
    obtain ⟨v, d, G1, rfl, s1, hd, hsh⟩ := hR
    refine ⟨_, rfl, _, _, rfl, rfl, div_ok (by decide) (by decide), _, _, rfl, rfl, (by show (0 : Int) < 6; decide), ?_⟩
    obtain ⟨door, hdoor⟩ : ∃ door, door = which / 9 % 6 := ⟨_, rfl⟩
    refine gset (σ' := [some (.int which), some (.int more), some v, some (.int door), none]) (by rw [hdoor]; rfl) ?_
    have hj : door = 0 ∨ door = 1 ∨ door = 2 ∨ door = 3 ∨ door = 4 ∨ door = 5 := by omega
    have qx := RtX.grow q s1.gr
    have h10 : (2 : Int) ≤ 10 := by decide
    clear hdoor
    rcases hj with rfl | rfl | rfl | rfl | rfl | rfl
    · refine ⟨_, rfl, _, _, rfl, rfl, _, rfl, ?_⟩
      exact ⟨_, rfl, _, rfl, _, 0, .int 10, d, .none, .int 10, v, .non, 1, rfl, s1.same, .int 10, s1.g 0 rfl, .non, hsh, trivial, .d0 (.row h10 hd), qx⟩
    · refine ⟨_, rfl, _, _, rfl, rfl, _, rfl, ?_⟩
      exact ⟨_, rfl, _, rfl, _, 1, .int 10, d, .none, .int 10, v, .non, 1, rfl, s1.same, .int 10, s1.g 0 rfl, .non, hsh, trivial, .d1 (.row h10 hd), qx⟩
    · refine ⟨_, rfl, _, _, rfl, rfl, _, rfl, ?_⟩
      exact ⟨_, rfl, _, rfl, _, 2, .int 10, d, .none, .int 10, v, .non, 1, rfl, s1.same, .int 10, s1.g 0 rfl, .non, hsh, trivial, .d2 (.one h10 hd), qx⟩
    · refine ⟨_, rfl, _, _, rfl, rfl, _, rfl, ?_⟩
      exact ⟨_, rfl, _, rfl, _, 3, .int 10, d, .none, .int 10, v, .non, 1, rfl, s1.same, .int 10, s1.g 0 rfl, .non, hsh, trivial, .d3 (.one h10 hd), qx⟩
    · refine ⟨_, rfl, _, _, rfl, rfl, _, rfl, ?_⟩
      refine ⟨_, rfl, rfl, _, rfl, small3 (by show 2 ≤ 100000; decide), fun p hp => ?_⟩
      have s2 := s1.lst hp (dpAll_ints [1, 2])
      exact ⟨_, rfl, _, .int 10, dI [1, 2], d, .int 10, .ref p, v, 1, rfl, s2.same, .int 10, s2.g 0 rfl, s2.g 1 rfl, short_ints (by decide), hsh, .other h10 (eRow_ints (by unfold InR; decide)) hd, q.grow s2.gr⟩
    · refine ⟨_, rfl, _, _, rfl, rfl, _, rfl, ?_⟩
      refine ⟨_, rfl, rfl, _, rfl, small3 (by show 2 ≤ 100000; decide), fun p hp => ?_⟩
      have s2 := s1.lst hp (dpAll_ints [1, 2])
      exact ⟨_, rfl, _, .int 10, dI [1, 2], d, .int 10, .ref p, v, rfl, s2.same, .int 10, s2.g 0 rfl, s2.g 1 rfl, short_ints (by decide), hsh, .inl ⟨1, .other h10 (eRow_ints (by unfold InR; decide)) hd, q.grow s2.gr⟩⟩
end Dial

namespace Dial
open PySem PySem.Spec PyProof.Rows L2 Dr DM
variable {P : Program} {w : World} {K : PySem.W.Frag} {mg : Str → Option Value} {base : Heap}
/-! _law_deeds_asked -/
def badDeeds (more : Int) : List PyData :=
  [.none, .tuple [.tuple [.int 0, .int 1, .int 1]], .str "0", .int 5, .list [.int 5], .list [.none], .list [.tuple [.int 0, .int 1]], .list [.tuple [.int 0, .int 1, .int 1, .int 1]], .list [.list [.int 0, .int 1, .int 1]],
   .list [.tuple [.int 0, .int 1, .int 0]], .list [.tuple [.int 1, .int 1, .int 2]], .list [.tuple [.int 0, .int 1, .int 1], .tuple [.int 0, .int (4 + more), .int 1]], .list [.tuple [.int (-1 - more), .int 1, .int 1]],
   .list [.tuple [.bool true, .int 2, .int 1]], .list [.tuple [.int 0, .int 2, .str "1"]], .list [.tuple [.int 2, .int 1, .int 1]]]
theorem badDeeds_bad {more : Int} (h : 0 ≤ more) : ∀ d ∈ badDeeds more, eDeeds 3 d = false := by
  have k1 : isDeed 3 (0, 4 + more, 1) = false := by
    unfold isDeed
    rw [decide_eq_false (show ¬ ((0, 4 + more, 1) : Deed).2.1 ≤ 3 by show ¬ 4 + more ≤ 3; omega)]
    simp
  have k2 : isDeed 3 (-1 - more, 1, 1) = false := by
    unfold isDeed
    rw [decide_eq_false (show ¬ 0 ≤ ((-1 - more, 1, 1) : Deed).1 by show ¬ 0 ≤ -1 - more; omega)]
    simp
  intro d hd
  unfold badDeeds at hd
  simp only [List.mem_cons, List.not_mem_nil, or_false] at hd
  rcases hd with rfl | rfl | rfl | rfl | rfl | rfl | rfl | rfl | rfl | rfl | rfl | rfl | rfl | rfl | rfl | rfl
  all_goals first
    | rfl
    | decide
    | exact eDeeds_of (List.mem_cons_of_mem _ List.mem_cons_self) k1
    | exact eDeeds_of List.mem_cons_self k2
def sp__law_deeds_asked (K : PySem.W.Frag) (ec : Nat → Addr) : Sp := fun vs H Q E => ∃ (G : Hp) (which more : Int), vs = [.int which, .int more] ∧ Same G H ∧ 0 ≤ more ∧ RtX G H (ec 2) E
theorem ok__law_deeds_asked (T : Txt K mg) : FnOk P w K mg base (L2.CX P w) 4 T.f__law_deeds_asked T.fd__law_deeds_asked ["_law_which", "_law_more"] (sp__law_deeds_asked K (ecls T)) := by
  refine T.D__law_deeds_asked.F.okX sc__law_deeds_asked (fun vs H Q E h => ?_) (fun cdv A outer s H vs Q E hr h => ?_)
  · obtain ⟨G, which, more, rfl, _⟩ := h; rfl
  · obtain ⟨G, which, more, rfl, e, hm0, q⟩ := h
    have s0 : S K G H [] [] G H := S.start e (fun _ h => nomatch h)
    refine ⟨_, (pss_cons (ps_set (i := 2) sc__law_deeds_asked.nd rfl (.inl rfl) (pe_lst (pa_cons pe_non (pa_cons (pe_tup (pa_cons (pe_tup (pa_cons pe_int (pa_cons pe_int (pa_cons pe_int pa_nil)))) pa_nil)) (pa_cons pe_str (pa_cons pe_int (pa_cons (pe_lst (pa_cons pe_int pa_nil)) (pa_cons (pe_lst (pa_cons pe_non pa_nil)) (pa_cons (pe_lst (pa_cons (pe_tup (pa_cons pe_int (pa_cons pe_int pa_nil))) pa_nil)) (pa_cons (pe_lst (pa_cons (pe_tup (pa_cons pe_int (pa_cons pe_int (pa_cons pe_int (pa_cons pe_int pa_nil))))) pa_nil)) (pa_cons (pe_lst (pa_cons (pe_lst (pa_cons pe_int (pa_cons pe_int (pa_cons pe_int pa_nil)))) pa_nil)) (pa_cons (pe_lst (pa_cons (pe_tup (pa_cons pe_int (pa_cons pe_int (pa_cons pe_int pa_nil)))) pa_nil)) (pa_cons (pe_lst (pa_cons (pe_tup (pa_cons pe_int (pa_cons pe_int (pa_cons pe_int pa_nil)))) pa_nil)) pa_nil)))))))))))))
    (pss_cons (ps_set (i := 2) sc__law_deeds_asked.nd rfl (.inl rfl) (pe_op op_cat (pv 2) (pe_lst (pa_cons (pe_lst (pa_cons (pe_tup (pa_cons pe_int (pa_cons pe_int (pa_cons pe_int pa_nil)))) (pa_cons (pe_tup (pa_cons pe_int (pa_cons (pe_op op_add pe_int (pv 1)) (pa_cons pe_int pa_nil)))) pa_nil))) (pa_cons (pe_lst (pa_cons (pe_tup (pa_cons (pe_op op_sub (pe_un un_neg pe_int) (pv 1)) (pa_cons pe_int (pa_cons pe_int pa_nil)))) pa_nil)) (pa_cons (pe_lst (pa_cons (pe_tup (pa_cons pe_bl (pa_cons pe_int (pa_cons pe_int pa_nil)))) pa_nil)) (pa_cons (pe_lst (pa_cons (pe_tup (pa_cons pe_int (pa_cons pe_int (pa_cons pe_str pa_nil)))) pa_nil)) (pa_cons (pe_lst (pa_cons (pe_tup (pa_cons pe_int (pa_cons pe_int (pa_cons pe_int pa_nil)))) pa_nil)) pa_nil))))))))
    (pss_one (ps_ret (pe_call (ok_turned T) (hr.mono (by decide)) (by rfl) T.D_turned.g T.D_turned.F.kp T.D_turned.b .nil (passes_call (takes_of rfl rfl rfl rfl) (fun _ _ _ _ h => h)) (pa_cons pe_int (pa_cons (pe_lst (pa_cons pe_int (pa_cons pe_int (pa_cons pe_int pa_nil)))) (pa_cons (pe_ix (r := rIxL K) ix_list (pv 2) (pe_op op_mod (pv 0) pe_int) (fun _ _ => rfl)) pa_nil)))))))), ?_⟩
    refine seqAsg ?_
    refine lit_own (K := K) (by repeat (first | exact lit_int | exact lit_bl | exact lit_neg | exact lit_nil | exact lit_non | exact lit_str | apply lit_cons | apply lit_lst | apply lit_tup | exact lit_var rfl | exact lit_less rfl | apply lit_add2 | apply lit_sub2 | exact Nat.le_of_ble_eq_true rfl)) (by exact Nat.le_of_ble_eq_true rfl) e fun l1 xs1 G1 H1 g1 h01 hg1 hh1 hd1 => ?_
    have s1 := s0.got g1 h01 hg1 hh1
    refine gset (σ' := [some (.int which), some (.int more), some (.ref l1)]) rfl ?_
    refine seqAsg ?_
    refine lit_cat (i := 2) s1 hd1 rfl (by repeat (first | exact lit_int | exact lit_bl | exact lit_neg | exact lit_nil | exact lit_non | exact lit_str | apply lit_cons | apply lit_lst | apply lit_tup | exact lit_var rfl | exact lit_less rfl | apply lit_add2 | apply lit_sub2 | exact Nat.le_of_ble_eq_true rfl)) (by exact Nat.le_of_ble_eq_true rfl) (by exact Nat.le_of_ble_eq_true rfl) fun l2 xs2 G2 H2 s2 hd2 => ?_
    refine gset (σ' := [some (.int which), some (.int more), some (.ref l2)]) rfl ?_
    refine ⟨small3 (by show 3 ≤ 100000; decide), fun p hp => ?_⟩
    have s3 := (s2.give (ds := badDeeds more) hd2).lst hp (dpAll_ints [1, 2, 3])
    obtain ⟨l', ys, e1, hq, hys⟩ := dp_list (s3.g 1 rfl)
    cases e1
    obtain ⟨j, hj, hjl⟩ : ∃ j : Nat, which % 16 = j ∧ j < 16 := ⟨(which % 16).toNat, by omega, by omega⟩
    have hjd : (badDeeds more)[j]? = some ((badDeeds more)[j]'hjl) := List.getElem?_eq_getElem hjl
    generalize (badDeeds more)[j]'hjl = d at hjd
    obtain ⟨v, hv, dv⟩ := DpAll.get hys hjd
    refine ⟨_, rfl, _, rfl, _, _, rfl, rfl, (by show (0 : Int) < 16; decide), l2, ys, _, v, rfl, congrArg V.int hj, s3.same.seq hq, atI_nat hv, ?_⟩
    exact ⟨_, .int 10, dI [1, 2, 3], d, .int 10, .ref p, v, rfl, s3.same, .int 10, s3.g 0 rfl, dv, short_ints (by decide), .inl ⟨2, .deeds (by decide) (eRow_ints (row := [1, 2, 3]) (by unfold InR; decide)) (badDeeds_bad hm0 d (List.mem_of_getElem? hjd)), RtX.grow q s3.gr⟩⟩
/-! _law_told -/
theorem ask_size {door : Int} {d0 d1 d2 : PyData} (h0 : 0 ≤ door) (h3 : door ≤ 3) (h : eSize d0 = false) : AskBad door d0 d1 d2 0 := by
  have hj : door = 0 ∨ door = 1 ∨ door = 2 ∨ door = 3 := by omega
  rcases hj with rfl | rfl | rfl | rfl
  · exact .d0 (.size h)
  · exact .d1 (.size h)
  · exact .d2 (.size h)
  · exact .d3 (.size h)
theorem ask_two {door : Int} {d0 d1 d2 : PyData} {k : Nat} (h : door = 2 ∨ door = 3) (hk : TwoBad d0 d1 d2 k) : AskBad door d0 d1 d2 k := by
  rcases h with rfl | rfl
  · exact .d2 hk
  · exact .d3 hk
def badSizes (more : Int) : List PyData := [.none, .int 1, .int 0, .int (-1 - more), .bool true, .str "10", .list [.int 10], .tuple [.int 10]]
theorem badSizes_bad {more : Int} (h : 0 ≤ more) : ∀ d ∈ badSizes more, eSize d = false := by
  intro d hd
  unfold badSizes at hd
  simp only [List.mem_cons, List.not_mem_nil, or_false] at hd
  rcases hd with rfl | rfl | rfl | rfl | rfl | rfl | rfl | rfl
  all_goals first
    | rfl
    | exact decide_eq_false (by omega)
theorem rep_in (n : Nat) (x : Int) (h0 : 0 ≤ x) (h1 : x < 10) : InR 10 (List.replicate n x) := fun y hy => by
  rw [List.eq_of_mem_replicate hy]; exact ⟨h0, h1⟩
def sp__law_told (K : PySem.W.Frag) : Sp := fun vs H Q _ => ∃ (G : Hp) (kind which more : Int), vs = [.int kind, .int which, .int more] ∧ Same G H ∧ (0 ≤ kind ∧ kind ≤ 3 ∧ 0 ≤ more ∧ more < 1000) ∧
  Rt K G H (.list [.bool (decide (kind = 0)), .bool (decide (kind = 1)), .bool (decide (kind = 2)), .bool (decide (kind = 3)), .bool true]) Q
theorem ok__law_told (T : Txt K mg) : FnOk P w K mg base CX0 8 T.f__law_told T.fd__law_told ["_law_kind", "_law_which", "_law_more"] (sp__law_told K) := by
  refine T.D__law_told.F.ok sc__law_told (fun vs H Q E h => ?_) (fun cdv A outer s H vs Q E hr h => ?_)
  · obtain ⟨G, kind, which, more, rfl, _⟩ := h; rfl
  · obtain ⟨G, kind, which, more, rfl, e, ⟨hk0, hk3, hm0, hm1⟩, q⟩ := h
    have s0 : S K G H [] [] G H := S.start e (fun _ h => nomatch h)
    refine ⟨_, (pss_cons (ps_try_as (i := 6) (Wout := fun _ _ _ _ => False) rfl rfl sc__law_told.nd rfl rfl ⟨rfl, by decide, .inl T.X_DialError.g⟩ takes0 (fun W pn xe tk _ => (pss_one (ps_if (pt_cmpR op_eq (pv 0) pe_int (nomark _)) (pss_cons (ps_set (i := 3) sc__law_told.nd rfl (.inl rfl) (pe_ix (r := rIxL K) ix_list (pe_lst (pa_cons pe_non (pa_cons pe_int (pa_cons pe_int (pa_cons (pe_op op_sub (pe_un un_neg pe_int) (pv 2)) (pa_cons pe_bl (pa_cons pe_str (pa_cons (pe_lst (pa_cons pe_int pa_nil)) (pa_cons (pe_tup (pa_cons pe_int pa_nil)) pa_nil))))))))) (pe_op op_mod (pv 1) pe_int) (fun _ _ => rfl)))
        (pss_one (ps_expr (pe_callS (ok__law_ask T) (hr.mono (by decide)) (by rfl) T.D__law_ask.g T.D__law_ask.F.kp T.D__law_ask.b (fun σ => passAt tk σ) (pa_cons (pe_op op_mod (pe_op op_fdivW (pv 1) pe_int) pe_int) (pa_cons (pv 3) (pa_cons pe_non (pa_cons pe_non pa_nil)))))))) (pss_one (ps_if (pt_cmpR op_eq (pv 0) pe_int (nomark _)) (pss_one (ps_expr (pe_callS (ok__law_rows_asked T) (hr.mono (by decide)) (by rfl) T.D__law_rows_asked.g T.D__law_rows_asked.F.kp T.D__law_rows_asked.b (fun σ => passAt tk σ) (pa_cons (pv 1) (pa_cons (pv 2) pa_nil))))) (pss_one (ps_if (pt_cmpR op_eq (pv 0) pe_int (nomark _)) (pss_one (ps_expr (pe_callS (ok__law_deeds_asked T) (hr.mono (by decide)) (by rfl) T.D__law_deeds_asked.g T.D__law_deeds_asked.F.kp T.D__law_deeds_asked.b (fun σ => passAt tk σ) (pa_cons (pv 1) (pa_cons (pv 2) pa_nil))))) (pss_cons (ps_setLc (i := 4) (own := [("_law_dial", 8)]) (g := gName 8) (tt := tYes) rfl sc__law_told.nd rfl rfl (sw_true rfl rfl rfl (by decide +kernel)) (pi_range1 (by rfl) T.z_range (pa_cons (pe_op op_mod (pv 2) pe_int) pa_nil)) (blkOk_by (own := [("_law_dial", 8)]) (N := N__law_told) (sc := defScope s__law_told) (by decide +kernel)) (fun _ _ _ _ _ => pg_name (i := 8) sc__law_told.nd rfl (Or.inl rfl)) (fun _ _ _ _ _ => pts_nil) (fun _ _ _ _ _ => pe_int))
            (pss_cons (ps_setLc (i := 5) (own := [("_law_dial", 8)]) (g := gName 8) (tt := tYes) rfl sc__law_told.nd rfl rfl (sw_true rfl rfl rfl (by decide +kernel)) (pi_range1 (by rfl) T.z_range (pa_cons (pe_op op_add (pe_op op_add (pe_op op_mod (pv 2) pe_int) pe_int) (pe_op op_mod (pe_op op_fdivW (pv 1) pe_int) pe_int)) pa_nil)) (blkOk_by (own := [("_law_dial", 8)]) (N := N__law_told) (sc := defScope s__law_told) (by decide +kernel)) (fun _ _ _ _ _ => pg_name (i := 8) sc__law_told.nd rfl (Or.inl rfl)) (fun _ _ _ _ _ => pts_nil) (fun _ _ _ _ _ => pe_int))
            (pss_one (ps_if (pt_cmpR op_lt (pe_op op_mod (pv 1) pe_int) pe_int (nomark _)) (pss_one (ps_expr (pe_callS (ok__law_ask T) (hr.mono (by decide)) (by rfl) T.D__law_ask.g T.D__law_ask.F.kp T.D__law_ask.b (fun σ => passAt tk σ) (pa_cons (pe_op op_add pe_int (pe_op op_mod (pv 1) pe_int)) (pa_cons pe_int (pa_cons (pv 4) (pa_cons (pv 5) pa_nil))))))) (pss_one (ps_expr (pe_callS (ok__law_ask T) (hr.mono (by decide)) (by rfl) T.D__law_ask.g T.D__law_ask.F.kp T.D__law_ask.b (fun σ => passAt tk σ) (pa_cons (pe_op op_add pe_int (pe_op op_mod (pv 1) pe_int)) (pa_cons pe_int (pa_cons (pv 5) (pa_cons (pv 4) pa_nil)))))))))))))))))) (fun a oe cls d pn hz hf => (pss_cons (ps_set (i := 7) sc__law_told.nd rfl (.inl rfl) (pe_lst (pa_cons (pe_callB (id := "isinstance") (r := rIsE2 K a cls d) (call_isE2 hz hf) (by rfl) T.z_isinstance (by decide +kernel) (pa_cons (pv 6) (pa_cons (pe_glob (v := .ref T.c_BadSize) rfl T.X_BadSize.g rfl) pa_nil))) (pa_cons (pe_callB (id := "isinstance") (r := rIsE2 K a cls d) (call_isE2 hz hf) (by rfl) T.z_isinstance (by decide +kernel) (pa_cons (pv 6) (pa_cons (pe_glob (v := .ref T.c_BadRow) rfl T.X_BadRow.g rfl) pa_nil))) (pa_cons (pe_callB (id := "isinstance") (r := rIsE2 K a cls d) (call_isE2 hz hf) (by rfl) T.z_isinstance (by decide +kernel) (pa_cons (pv 6) (pa_cons (pe_glob (v := .ref T.c_BadDeeds) rfl T.X_BadDeeds.g rfl) pa_nil))) pa_nil)))))
      (pss_one (ps_ret (pe_op op_cat (pv 7) (pe_lst (pa_cons (pe_callB (id := "isinstance") (r := rIsE2 K a cls d) (call_isE2 hz hf) (by rfl) T.z_isinstance (by decide +kernel) (pa_cons (pv 6) (pa_cons (pe_glob (v := .ref T.c_Unlike) rfl T.X_Unlike.g rfl) pa_nil))) (pa_cons (pe_callB (id := "isinstance") (r := rIsE2 K a cls d) (call_isE2 hz hf) (by rfl) T.z_isinstance (by decide +kernel) (pa_cons (pv 6) (pa_cons (pe_bltn (v := .ty "ValueError") (by rfl) T.z_ValueError (by decide +kernel) rfl) pa_nil))) pa_nil)))))))))
    (pss_one (ps_ret (pe_lst pa_nil)))), ?_⟩
    have hj : kind = 0 ∨ kind = 1 ∨ kind = 2 ∨ kind = 3 := by omega
    rcases hj with rfl | rfl | rfl | rfl
    · refine ⟨_, rfl, rfl, _, rfl, ?_⟩
      obtain ⟨j, hj, hjl⟩ : ∃ j : Nat, which % 8 = j ∧ j < 8 := ⟨(which % 8).toNat, by omega, by omega⟩
      have hjd : (badSizes more)[j]? = some ((badSizes more)[j]'hjl) := List.getElem?_eq_getElem hjl
      generalize (badSizes more)[j]'hjl = d at hjd
      have hd := badSizes_bad hm0 d (List.mem_of_getElem? hjd)
      show tSeq (tAsg _ _) _ _ _ _
      refine seqAsg ?_
      refine litIx (K := K) (ds := badSizes more) (by repeat (first | exact lit_int | exact lit_bl | exact lit_neg | exact lit_nil | exact lit_non | exact lit_str | apply lit_cons | apply lit_lst | apply lit_tup | exact lit_var rfl | exact lit_less rfl | apply lit_add2 | apply lit_sub2 | exact Nat.le_of_ble_eq_true rfl)) (by exact Nat.le_of_ble_eq_true rfl) e hjd (fun H R h => ⟨_, rfl, _, _, rfl, rfl, (by show (0 : Int) < 8; decide), by rw [← hj] at h; exact h⟩) fun v G1 H1 g1 dv => ?_
      have sC := (s0.grow g1).add dv
      refine gset (σ' := [some (.int 0), some (.int which), some (.int more), some v, none, none, none, none, none]) rfl ?_
      refine ⟨_, rfl, _, _, rfl, rfl, div_ok (by decide) (by decide), _, _, rfl, rfl, (by show (0 : Int) < 4; decide), _, rfl, _, which / 8 % 4, d, .none, .none, v, .non, .non, 0, rfl, sC.same, sC.g 0 rfl, .non, .non, trivial, trivial, ask_size (by omega) (by omega) hd, fun G8 H8 g8 => ⟨true, T.m_BadSize, fun _ a ha => ?_, fun z => nomatch z⟩⟩
      have z0 : S K G H [] [] G8 H8 := ((sC.grow g8).less (Γ' := []) fun _ h => nomatch h).only
      refine ⟨_, rfl, T.c_BadSize, rfl, rfl, T.X_BadSize.c, _, _, _, rfl, fun _ r => r, T.i_BadSize_BadSize, _, rfl, T.c_BadSize, rfl, rfl, T.X_BadSize.c, _, _, _, rfl, fun _ r => r, T.i_BadSize_BadRow, _, rfl, T.c_BadSize, rfl, rfl, T.X_BadSize.c, _, _, _, rfl, fun _ r => r, T.i_BadSize_BadDeeds, small3 (by show 3 ≤ 100000; decide), fun p1 hp1 => ?_⟩
      have z1 := z0.new (o := .lst [V.bl true, V.bl false, V.bl false]) hp1
      refine ⟨_, rfl, _, rfl, T.c_BadSize, rfl, rfl, T.X_BadSize.c, _, _, _, rfl, fun _ r => r, T.i_BadSize_Unlike, _, rfl, T.c_BadSize, rfl, rfl, T.X_BadSize.c, _, _, _, rfl, fun _ r => r, T.v_BadSize, small3 (by show 2 ≤ 100000; decide), fun p2 hp2 => ?_⟩
      have z2 := z1.new (o := .lst [V.bl false, V.bl true]) hp2
      refine ⟨p1, p2, _, _, rfl, rfl, z2.o 1 rfl, z2.o 0 rfl, small3 (by show 5 ≤ 100000; decide), fun p3 hp3 => ?_⟩
      have z3 := z2.only.lst (ds := [.bool true, .bool false, .bool false, .bool false, .bool true]) hp3 (.cons (.bl _) (.cons (.bl _) (.cons (.bl _) (.cons (.bl _) (.cons (.bl _) .nil)))))
      exact q _ _ _ z3.gr (z3.g 0 rfl)
    · refine ⟨_, rfl, rfl, _, rfl, ?_⟩
      refine ⟨_, rfl, rfl, _, rfl, ?_⟩
      have sC := s0
      refine ⟨_, rfl, _, rfl, G, which, more, rfl, e, hm0, hm1, fun G8 H8 g8 => ⟨true, T.m_BadRow, fun _ a ha => ?_, fun z => nomatch z⟩⟩
      have z0 : S K G H [] [] G8 H8 := ((sC.grow g8).less (Γ' := []) fun _ h => nomatch h).only
      refine ⟨_, rfl, T.c_BadRow, rfl, rfl, T.X_BadRow.c, _, _, _, rfl, fun _ r => r, T.i_BadRow_BadSize, _, rfl, T.c_BadRow, rfl, rfl, T.X_BadRow.c, _, _, _, rfl, fun _ r => r, T.i_BadRow_BadRow, _, rfl, T.c_BadRow, rfl, rfl, T.X_BadRow.c, _, _, _, rfl, fun _ r => r, T.i_BadRow_BadDeeds, small3 (by show 3 ≤ 100000; decide), fun p1 hp1 => ?_⟩
      have z1 := z0.new (o := .lst [V.bl false, V.bl true, V.bl false]) hp1
      refine ⟨_, rfl, _, rfl, T.c_BadRow, rfl, rfl, T.X_BadRow.c, _, _, _, rfl, fun _ r => r, T.i_BadRow_Unlike, _, rfl, T.c_BadRow, rfl, rfl, T.X_BadRow.c, _, _, _, rfl, fun _ r => r, T.v_BadRow, small3 (by show 2 ≤ 100000; decide), fun p2 hp2 => ?_⟩
      have z2 := z1.new (o := .lst [V.bl false, V.bl true]) hp2
      refine ⟨p1, p2, _, _, rfl, rfl, z2.o 1 rfl, z2.o 0 rfl, small3 (by show 5 ≤ 100000; decide), fun p3 hp3 => ?_⟩
      have z3 := z2.only.lst (ds := [.bool false, .bool true, .bool false, .bool false, .bool true]) hp3 (.cons (.bl _) (.cons (.bl _) (.cons (.bl _) (.cons (.bl _) (.cons (.bl _) .nil)))))
      exact q _ _ _ z3.gr (z3.g 0 rfl)
    · refine ⟨_, rfl, rfl, _, rfl, ?_⟩
      refine ⟨_, rfl, rfl, _, rfl, ?_⟩
      refine ⟨_, rfl, rfl, _, rfl, ?_⟩
      have sC := s0
      refine ⟨_, rfl, _, rfl, G, which, more, rfl, e, hm0, fun G8 H8 g8 => ⟨true, T.m_BadDeeds, fun _ a ha => ?_, fun z => nomatch z⟩⟩
      have z0 : S K G H [] [] G8 H8 := ((sC.grow g8).less (Γ' := []) fun _ h => nomatch h).only
      refine ⟨_, rfl, T.c_BadDeeds, rfl, rfl, T.X_BadDeeds.c, _, _, _, rfl, fun _ r => r, T.i_BadDeeds_BadSize, _, rfl, T.c_BadDeeds, rfl, rfl, T.X_BadDeeds.c, _, _, _, rfl, fun _ r => r, T.i_BadDeeds_BadRow, _, rfl, T.c_BadDeeds, rfl, rfl, T.X_BadDeeds.c, _, _, _, rfl, fun _ r => r, T.i_BadDeeds_BadDeeds, small3 (by show 3 ≤ 100000; decide), fun p1 hp1 => ?_⟩
      have z1 := z0.new (o := .lst [V.bl false, V.bl false, V.bl true]) hp1
      refine ⟨_, rfl, _, rfl, T.c_BadDeeds, rfl, rfl, T.X_BadDeeds.c, _, _, _, rfl, fun _ r => r, T.i_BadDeeds_Unlike, _, rfl, T.c_BadDeeds, rfl, rfl, T.X_BadDeeds.c, _, _, _, rfl, fun _ r => r, T.v_BadDeeds, small3 (by show 2 ≤ 100000; decide), fun p2 hp2 => ?_⟩
      have z2 := z1.new (o := .lst [V.bl false, V.bl true]) hp2
      refine ⟨p1, p2, _, _, rfl, rfl, z2.o 1 rfl, z2.o 0 rfl, small3 (by show 5 ≤ 100000; decide), fun p3 hp3 => ?_⟩
      have z3 := z2.only.lst (ds := [.bool false, .bool false, .bool true, .bool false, .bool true]) hp3 (.cons (.bl _) (.cons (.bl _) (.cons (.bl _) (.cons (.bl _) (.cons (.bl _) .nil)))))
      exact q _ _ _ z3.gr (z3.g 0 rfl)
    · refine ⟨_, rfl, rfl, _, rfl, ?_⟩
      refine ⟨_, rfl, rfl, _, rfl, ?_⟩
      refine ⟨_, rfl, rfl, _, rfl, ?_⟩
      have m5 : 0 ≤ more % 5 ∧ more % 5 < 5 := by omega
      have w3 : 0 ≤ which / 4 % 3 ∧ which / 4 % 3 < 3 := by omega
      refine ⟨_, rfl, _, _, rfl, rfl, (by show (0 : Int) < 5; decide), _, rfl, (by show -(2 ^ 62) ≤ more % 5; omega), (by show more % 5 < 2 ^ 62; omega), ?_⟩
      refine fun D hD => lc_wk (G := G) (wk_rng (G := G)) s0 hD (Same.refl _) (small (by show (more % 5).toNat ≤ 100000; omega)) ((List.replicate (more % 5).toNat (1 : Int)).map PyData.int) (by rw [List.length_map, List.length_replicate]) (fun i d x G1 H1 hi hy s1 hx R k => ?_) (fun xs G1 H1 s1 hxs => ?_)
      · refine ⟨rfl, k _ _ _ (.int 1) (Gr.refl s1.same) ?_ (.int 1)⟩
        rw [List.map_replicate, List.getElem?_replicate, if_pos (by exact hi)]
      have s2 := s1.give hxs
      clear s1 hxs
      generalize upd G1 D (.lst xs) = G2 at s2
      refine gset (σ' := [some (.int 3), some (.int which), some (.int more), none, some (.ref D), none, none, none, none]) rfl ?_
      refine ⟨_, rfl, _, _, rfl, rfl, (by show (0 : Int) < 5; decide), _, _, rfl, rfl, _, rfl, _, _, rfl, rfl, div_ok (by decide) (by decide), _, _, rfl, rfl, (by show (0 : Int) < 3; decide), _, _, rfl, rfl, _, rfl, (by show -(2 ^ 62) ≤ more % 5 + 1 + which / 4 % 3; omega), (by show more % 5 + 1 + which / 4 % 3 < 2 ^ 62; omega), ?_⟩
      refine fun D2 hD2 => lc_wk (G := G2) (wk_rng (G := G2)) s2 hD2 (Same.refl _) (small (by show (more % 5 + 1 + which / 4 % 3).toNat ≤ 100000; omega)) ((List.replicate (more % 5 + 1 + which / 4 % 3).toNat (2 : Int)).map PyData.int) (by rw [List.length_map, List.length_replicate]) (fun i d x G1 H1 hi hy s1 hx R k => ?_) (fun xs G3 H3 s3 hxs => ?_)
      · refine ⟨rfl, k _ _ _ (.int 2) (Gr.refl s1.same) ?_ (.int 2)⟩
        rw [List.map_replicate, List.getElem?_replicate, if_pos (by exact hi)]
      have sC := s3.give hxs
      clear s3 hxs s2
      generalize upd G3 D2 (.lst xs) = G4 at sC
      refine gset (σ' := [some (.int 3), some (.int which), some (.int more), none, some (.ref D), some (.ref D2), none, none, none]) rfl ?_
      have e1 : eRow 10 (dI (List.replicate (more % 5).toNat 1)) = true := eRow_ints (rep_in _ 1 (by decide) (by decide))
      have e2 : eRow 10 (dI (List.replicate (more % 5 + 1 + which / 4 % 3).toNat 2)) = true := eRow_ints (rep_in _ 2 (by decide) (by decide))
      have l1 : ((List.replicate (more % 5).toNat (1 : Int)).map PyData.int).length = (more % 5).toNat := by rw [List.length_map, List.length_replicate]
      have l2 : ((List.replicate (more % 5 + 1 + which / 4 % 3).toNat (2 : Int)).map PyData.int).length = (more % 5 + 1 + which / 4 % 3).toNat := by rw [List.length_map, List.length_replicate]
      have sh1 : shortD (dI (List.replicate (more % 5).toNat 1)) := short_ints (by rw [List.length_replicate]; omega)
      have sh2 : shortD (dI (List.replicate (more % 5 + 1 + which / 4 % 3).toNat 2)) := short_ints (by rw [List.length_replicate]; omega)
      have hdoor : 2 + which % 2 = 2 ∨ 2 + which % 2 = 3 := by omega
      refine ⟨_, rfl, _, _, rfl, rfl, (by show (0 : Int) < 4; decide), _, _, rfl, rfl, _, rfl, ?_⟩
      by_cases hw : which % 4 < 2
      · rw [decide_eq_true hw]
        refine ⟨_, rfl, _, _, rfl, rfl, (by show (0 : Int) < 2; decide), _, _, rfl, rfl, _, rfl, _, rfl, _, 2 + which % 2, .int 10, _, _, .int 10, .ref D, .ref D2, 3, rfl, sC.same, .int 10, sC.g 1 rfl, sC.g 0 rfl, sh1, sh2, ask_two hdoor (.unlike (by decide) e1 e2 (by rw [l1, l2]; omega)), fun G8 H8 g8 => ⟨true, T.m_Unlike, fun _ a ha => ?_, fun z => nomatch z⟩⟩
        have z0 : S K G H [] [] G8 H8 := ((sC.grow g8).less (Γ' := []) fun _ h => nomatch h).only
        refine ⟨_, rfl, T.c_Unlike, rfl, rfl, T.X_Unlike.c, _, _, _, rfl, fun _ r => r, T.i_Unlike_BadSize, _, rfl, T.c_Unlike, rfl, rfl, T.X_Unlike.c, _, _, _, rfl, fun _ r => r, T.i_Unlike_BadRow, _, rfl, T.c_Unlike, rfl, rfl, T.X_Unlike.c, _, _, _, rfl, fun _ r => r, T.i_Unlike_BadDeeds, small3 (by show 3 ≤ 100000; decide), fun p1 hp1 => ?_⟩
        have z1 := z0.new (o := .lst [V.bl false, V.bl false, V.bl false]) hp1
        refine ⟨_, rfl, _, rfl, T.c_Unlike, rfl, rfl, T.X_Unlike.c, _, _, _, rfl, fun _ r => r, T.i_Unlike_Unlike, _, rfl, T.c_Unlike, rfl, rfl, T.X_Unlike.c, _, _, _, rfl, fun _ r => r, T.v_Unlike, small3 (by show 2 ≤ 100000; decide), fun p2 hp2 => ?_⟩
        have z2 := z1.new (o := .lst [V.bl true, V.bl true]) hp2
        refine ⟨p1, p2, _, _, rfl, rfl, z2.o 1 rfl, z2.o 0 rfl, small3 (by show 5 ≤ 100000; decide), fun p3 hp3 => ?_⟩
        have z3 := z2.only.lst (ds := [.bool false, .bool false, .bool false, .bool true, .bool true]) hp3 (.cons (.bl _) (.cons (.bl _) (.cons (.bl _) (.cons (.bl _) (.cons (.bl _) .nil)))))
        exact q _ _ _ z3.gr (z3.g 0 rfl)
      · rw [decide_eq_false hw]
        refine ⟨_, rfl, _, _, rfl, rfl, (by show (0 : Int) < 2; decide), _, _, rfl, rfl, _, rfl, _, rfl, _, 2 + which % 2, .int 10, _, _, .int 10, .ref D2, .ref D, 3, rfl, sC.same, .int 10, sC.g 0 rfl, sC.g 1 rfl, sh2, sh1, ask_two hdoor (.unlike (by decide) e2 e1 (by rw [l1, l2]; omega)), fun G8 H8 g8 => ⟨true, T.m_Unlike, fun _ a ha => ?_, fun z => nomatch z⟩⟩
        have z0 : S K G H [] [] G8 H8 := ((sC.grow g8).less (Γ' := []) fun _ h => nomatch h).only
        refine ⟨_, rfl, T.c_Unlike, rfl, rfl, T.X_Unlike.c, _, _, _, rfl, fun _ r => r, T.i_Unlike_BadSize, _, rfl, T.c_Unlike, rfl, rfl, T.X_Unlike.c, _, _, _, rfl, fun _ r => r, T.i_Unlike_BadRow, _, rfl, T.c_Unlike, rfl, rfl, T.X_Unlike.c, _, _, _, rfl, fun _ r => r, T.i_Unlike_BadDeeds, small3 (by show 3 ≤ 100000; decide), fun p1 hp1 => ?_⟩
        have z1 := z0.new (o := .lst [V.bl false, V.bl false, V.bl false]) hp1
        refine ⟨_, rfl, _, rfl, T.c_Unlike, rfl, rfl, T.X_Unlike.c, _, _, _, rfl, fun _ r => r, T.i_Unlike_Unlike, _, rfl, T.c_Unlike, rfl, rfl, T.X_Unlike.c, _, _, _, rfl, fun _ r => r, T.v_Unlike, small3 (by show 2 ≤ 100000; decide), fun p2 hp2 => ?_⟩
        have z2 := z1.new (o := .lst [V.bl true, V.bl true]) hp2
        refine ⟨p1, p2, _, _, rfl, rfl, z2.o 1 rfl, z2.o 0 rfl, small3 (by show 5 ≤ 100000; decide), fun p3 hp3 => ?_⟩
        have z3 := z2.only.lst (ds := [.bool false, .bool false, .bool false, .bool true, .bool true]) hp3 (.cons (.bl _) (.cons (.bl _) (.cons (.bl _) (.cons (.bl _) (.cons (.bl _) .nil)))))
        exact q _ _ _ z3.gr (z3.g 0 rfl)
end Dial

namespace Dial
open PySem PySem.Spec PyProof.Rows L2 Dr DM
variable {P : Program} {w : World} {K : PySem.W.Frag} {mg : Str → Option Value} {base : Heap}
abbrev great : Int := 1000000000000000000000000000000
theorem great_is : V.int ((10 : Int) ^ (30 : Int).toNat) = V.int great := congrArg V.int (by decide +kernel)
theorem lit_pow {σ : L2.St} : LitE K σ (tOp (rI CPow fun i j => V.int (i ^ j.toNat)) (tC (.int 10)) (tC (.int 30))) (.int great) := fun G H Q e q =>
  ⟨10, 30, rfl, rfl, ⟨by decide, by decide, by decide⟩, by
    show Q (V.int ((10 : Int) ^ (30 : Int).toNat)) H
    rw [great_is]
    exact q _ G H (Gr.refl e) (.int _)⟩
/-- return turned(..) == .. and apart(..) == .. -/
theorem last_ok (T : Txt K mg) {te1 te2 te3 te4 te5 te6 : TE} {E1 E2 : XK} {D : Ends} {σ : L2.St} {G H : Hp} (h1 : LitE K σ te1 (.int great)) (h2 : LitE K σ te2 (dI [0])) (h3 : LitE K σ te3 (dT [(0, 1, -1)])) (h4 : LitE K σ te4 (dI [great - 1])) (h5 : LitE K σ te5 (dI [1, 2, 3])) (h6 : LitE K σ te6 (dI [2, 3, 4]))
    (e : Same G H) (q : ∀ H', D.rt (.bl true) H') :
    tRet (tAndV (tOp (rEqD K) (tCall (sp_turned K (ecls T)) [] E1 (tCons te1 (tCons te2 (tCons te3 tNil)))) te4) (tOp rEq (tCall (sp_apart K (ecls T)) [] E2 (tCons (tC (.int 10)) (tCons te5 (tCons te6 tNil)))) (tC (.int 1)))) D σ H := by
  have s0 : S K G H [] [] G H := S.start e (fun _ h => nomatch h)
  refine h1 G H _ e fun v1 G1 H1 g1 d1 => h2 G1 H1 _ g1.s fun v2 G2 H2 g2 d2 => h3 G2 H2 _ g2.s fun v3 G3 H3 g3 d3' => ?_
  cases dp_int d1
  have s3 := s0.grow ((g1.trans g2).trans g3)
  refine ⟨G3, .int great, dI [0], dT [(0, 1, -1)], _, v2, v3, rfl, g3.s, .int _, Dp.mono g3.g _ _ d2, d3', short_ints (by decide), .inr ⟨great, [0], [(0, 1, -1)], rfl, rfl, rfl, ⟨by decide, by decide, by unfold InR; decide, by unfold Okd; decide⟩, fun z xz G4 H4 g4 h0 hg hh hd => ?_⟩⟩
  have s4 := (s3.got g4 h0 hg hh).give hd
  refine h4 _ _ _ s4.same fun v5 G5 H5 g5 d5 => ?_
  have s5 := s4.grow g5
  refine ⟨dI (turnedBy great [0] [(0, 1, -1)]), dI [great - 1], s5.h 0 rfl, Dp.mono s5.same _ _ d5, shaped_dI _, shaped_dI _, true, ?_, ?_⟩
  · rw [eqv_dI, show turnedBy great [0] [(0, 1, -1)] = [great - 1] by decide +kernel, decide_eq_true rfl]
  refine h5 _ _ _ s5.same fun v6 G6 H6 g6 d6 => h6 _ _ _ g6.s fun v7 G7 H7 g7 d7 => ?_
  refine ⟨G7, .int 10, dI [1, 2, 3], dI [2, 3, 4], _, v6, v7, rfl, g7.s, .int _, Dp.mono g7.g _ _ d6, d7, short_ints (by decide), short_ints (by decide), .inr ⟨10, [1, 2, 3], [2, 3, 4], rfl, rfl, rfl, ⟨by decide, by decide, by unfold InR; decide, by unfold InR; decide, rfl, by decide⟩, fun G8 H8 g8 => ⟨rfl, ?_⟩⟩⟩
  rw [show apartOf 10 [1, 2, 3] [2, 3, 4] = 1 by decide +kernel, decide_eq_true rfl]
  exact q _
/-! law -/
def sp_law (K : PySem.W.Frag) : Sp := fun vs H Q _ => ∃ (a : Addr) (ns : List Int), vs = [.ref a] ∧ SqL K H a (ns.map V.int) ∧ (ns.length ≤ 63 ∧ ∀ z ∈ ns, Builtin.Int.intBits z ≤ 1048576) ∧ ∀ H', Q (.bl true) H'
theorem sp_law_of {H : Hp} {a : Addr} {ns : List Int} (hl : ns.length ≤ 63) (hb : ∀ z ∈ ns, Builtin.Int.intBits z ≤ 1048576) (hS : SqL K H a (ns.map V.int)) : sp_law K [.ref a] H (fun v _ => v = .bl true) fun _ _ _ => False := ⟨a, ns, rfl, hS, ⟨hl, hb⟩, fun _ => rfl⟩
theorem dec_int (a b : Int) : decide (V.int a = V.int b) = decide (a = b) := by
  by_cases h : a = b
  · subst h; simp
  · rw [decide_eq_false h, decide_eq_false fun z => h (V.int.inj z)]
theorem shp_bool (b : Bool) : PyData.canLay0 (.bool b) = true ∧ PyData.depth (.bool b) ≤ 0 := ⟨by simp [PyData.canLay0], by simp [PyData.depth]⟩
def dueOf (kind : Int) : List Bool := [decide (kind = 0), decide (kind = 1), decide (kind = 2), decide (kind = 3), true]
theorem shp_bools (bs : List Bool) : PyData.canLay0 (.list (bs.map .bool)) = true ∧ PyData.depth (.list (bs.map .bool)) ≤ 1 := shp_list fun d hd => by
  obtain ⟨b, _, rfl⟩ := List.mem_map.mp hd
  exact shp_bool b
theorem ok_law (T : Txt K mg) : FnOk P w K mg base CX0 9 T.f_law T.fd_law ["_law_script"] (sp_law K) := by
  refine T.D_law.F.ok sc_law (fun vs H Q E h => ?_) (fun cdv A outer s H vs Q E hr h => ?_)
  · obtain ⟨a, ns, rfl, _⟩ := h; rfl
  · obtain ⟨a, ns, rfl, hq, ⟨hl, hb⟩, q⟩ := h
    have s0 : S K H H [] [] H H := S.start (Same.refl _) (fun _ h => nomatch h)
    refine ⟨_, (pss_cons (ps_for PassesOwn.never rfl (pi_list (pv 0)) (pg_name (i := 1) sc_law.nd rfl (Or.inl rfl)) (pss_cons (ps_set (i := 2) sc_law.nd rfl (.inr rfl) (pe_op op_mod (pv 1) pe_int))
      (pss_cons (ps_set (i := 3) sc_law.nd rfl (.inl rfl) (pe_op op_cat (pe_lc (own := [("_law_at", 4)]) (g := gName 4) (tt := tYes) rfl sc_law.nd (pi_range1 (by rfl) T.z_range (pa_cons pe_int pa_nil)) (blkOk_by (own := [("_law_at", 4)]) (N := N_law) (sc := defScope s_law) (by decide +kernel)) (fun _ _ _ _ _ => pg_name (i := 4) sc_law.nd rfl (Or.inl rfl)) (fun _ _ _ _ _ => pts_nil) (fun _ _ _ _ _ => (pe_cmpR op_eq (pv 2) (pv 4) (nomark _)))) (pe_lst (pa_cons pe_bl pa_nil))))
      (pss_one (ps_if (pt_cmpR (op_neD hr.units) (pe_call (ok__law_told T) (hr.mono (by decide)) (by rfl) T.D__law_told.g T.D__law_told.F.kp T.D__law_told.b .nil pass0 (pa_cons (pv 2) (pa_cons (pe_op op_mod (pe_op op_fdivW (pv 1) pe_int) pe_int) (pa_cons (pe_op op_mod (pe_op op_fdivW (pv 1) pe_int) pe_int) pa_nil)))) (pv 3) (nomark _)) (pss_one (ps_ret pe_bl)) pss_nil)))))
    (pss_one (ps_ret (pe_and (pe_cmpR (op_eqD hr.units) (pe_call (ok_turned T) (hr.mono (by decide)) (by rfl) T.D_turned.g T.D_turned.F.kp T.D_turned.b .nil passL (pa_cons (pe_op op_pow pe_int pe_int) (pa_cons (pe_lst (pa_cons pe_int pa_nil)) (pa_cons (pe_lst (pa_cons (pe_tup (pa_cons pe_int (pa_cons pe_int (pa_cons (pe_un un_neg pe_int) pa_nil)))) pa_nil)) pa_nil)))) (pe_lst (pa_cons (pe_op op_sub (pe_op op_pow pe_int pe_int) pe_int) pa_nil)) (nomark _)) (pe_one (pe_cmpR op_eq (pe_call (ok_apart T) (hr.mono (by decide)) (by rfl) T.D_apart.g T.D_apart.F.kp T.D_apart.b .nil passL (pa_cons pe_int (pa_cons (pe_lst (pa_cons pe_int (pa_cons pe_int (pa_cons pe_int pa_nil)))) (pa_cons (pe_lst (pa_cons pe_int (pa_cons pe_int (pa_cons pe_int pa_nil)))) pa_nil)))) pe_int (nomark _))))))), ?_⟩
    refine ⟨.ref a, rfl, a, rfl, ⟨_, hq⟩, for_wk (wk_list hq (dpAll_ints ns)) (fun i σ G1 H1 => ∃ y1 y2 y3, σ = [some (.ref a), y1, y2, y3, none] ∧ S K H H [] [] G1 H1)
      ⟨_, none, none, none, rfl, s0⟩ (fun i σ G1 H1 ⟨_, _, _, e1, s1⟩ => ⟨s1.gr.g, s1.same⟩) (fun i d x σ G1 H1 G2 H2 hi ⟨y1, y2, y3, e1, s1⟩ g2 hy hx => ?_) (fun σ G1 H1 ⟨y1, y2, y3, e1, s1⟩ => ?_)⟩
    · subst e1
      obtain ⟨cell, hcl, rfl⟩ := map_get hy
      cases dp_int hx
      have s2 := s1.grow g2
      have k4 : 0 ≤ cell % 4 ∧ cell % 4 ≤ 3 := by omega
      have k1 : 0 ≤ cell / 400000 % 1000 ∧ cell / 400000 % 1000 < 1000 := by omega
      refine ⟨_, rfl, _, _, rfl, rfl, (by show (0 : Int) < 4; decide), ?_⟩
      obtain ⟨kind, hkind⟩ : ∃ kind, kind = cell % 4 := ⟨_, rfl⟩
      refine gset (σ' := [some (.ref a), some (.int cell), some (.int kind), y3, none]) (by rw [hkind]; rfl) ?_
      -- due
      refine ⟨_, rfl, (by decide), (by decide), ?_⟩
      refine fun D hD => lc_wk (G := G2) (wk_rng (G := G2)) s2 hD (Same.refl _) (small (by show 4 ≤ 100000; decide)) (((List.range 4).map fun i : Nat => decide (V.int kind = V.int (0 + (i : Int)))).map PyData.bool) (by rw [List.length_map, List.length_map, List.length_range]; rfl) (fun i d x G3 H3 hi hy s3 hx R k => ?_) (fun xs G3 H3 s3 hxs => ?_)
      · subst hy
        cases dp_int hx
        refine ⟨rfl, _, rfl, _, rfl, rfl, k _ _ _ (.bool (decide (V.int kind = V.int (0 + (i : Int))))) (Gr.refl s3.same) ?_ (.bl _)⟩
        have hi4 : i < 4 := hi
        rw [List.getElem?_map, List.getElem?_map, List.getElem?_range hi4]; rfl
      rw [dpAll_bools hxs] at s3
      clear hxs
      refine ⟨small3 (by show 1 ≤ 100000; decide), fun p1 hp1 => ?_⟩
      have s4 := s3.new (o := .lst [V.bl true]) hp1
      refine ⟨D, p1, _, _, rfl, rfl, s4.o 1 rfl, s4.o 0 rfl, small3 (by rw [List.length_map, List.length_map, List.length_range]; show 4 + 1 ≤ 100000; decide), fun p2 hp2 => ?_⟩
      have hdue : DpAll K G3 (((List.range 4).map fun i : Nat => decide (V.int kind = V.int (0 + (i : Int)))).map V.bl ++ [V.bl true]) ((dueOf kind).map PyData.bool) := by
        have e : dueOf kind = ((List.range 4).map fun i : Nat => decide (V.int kind = V.int (0 + (i : Int)))) ++ [true] := by
          unfold dueOf
          rw [← dec_int kind 0, ← dec_int kind 1, ← dec_int kind 2, ← dec_int kind 3]
          rfl
        rw [e, List.map_append]
        generalize ((List.range 4).map fun i : Nat => decide (V.int kind = V.int (0 + (i : Int)))) = bs
        refine DpAll.append ?_ (DpAll.one (.bl true))
        induction bs with
        | nil => exact .nil
        | cons b bs ih => exact .cons (.bl b) ih
      have s5 := s4.only.lst hp2 hdue
      refine gset (σ' := [some (.ref a), some (.int cell), some (.int kind), some (.ref p2), none]) rfl ?_
      refine ⟨_, rfl, _, rfl, _, _, rfl, rfl, div_ok (by decide) (by decide), _, _, rfl, rfl, (by show (0 : Int) < 100000; decide), _, rfl, _, _, rfl, rfl, div_ok (by decide) (by decide), _, _, rfl, rfl, (by show (0 : Int) < 1000; decide),
        _, kind, cell / 4 % 100000, cell / 400000 % 1000, rfl, s5.same, ⟨by omega, by omega, k1.1, k1.2⟩, fun v G6 H6 g6 hv => ?_⟩
      have s6 := s5.grow g6
      refine ⟨_, rfl, .list ((dueOf kind).map .bool), .list ((dueOf kind).map .bool), Dp.mono s6.same _ _ hv, s6.h 0 rfl, shp_ok (shp_bools _), shp_ok (shp_bools _), _, rfl, ?_⟩
      rw [eqv_self (shp_bools _)]
      exact ⟨_, _, _, _, rfl, s6.tail⟩
    subst e1
    refine inNx ?_
    exact last_ok T lit_pow (by repeat (first | exact lit_int | exact lit_bl | exact lit_neg | exact lit_nil | exact lit_non | exact lit_str | apply lit_cons | apply lit_lst | apply lit_tup | exact lit_var rfl | exact lit_less rfl | apply lit_add2 | apply lit_sub2 | exact Nat.le_of_ble_eq_true rfl)) (by repeat (first | exact lit_int | exact lit_bl | exact lit_neg | exact lit_nil | exact lit_non | exact lit_str | apply lit_cons | apply lit_lst | apply lit_tup | exact lit_var rfl | exact lit_less rfl | apply lit_add2 | apply lit_sub2 | exact Nat.le_of_ble_eq_true rfl)) (lit_lst (lit_cons (lit_sub lit_pow) lit_nil) (by decide)) (by repeat (first | exact lit_int | exact lit_bl | exact lit_neg | exact lit_nil | exact lit_non | exact lit_str | apply lit_cons | apply lit_lst | apply lit_tup | exact lit_var rfl | exact lit_less rfl | apply lit_add2 | apply lit_sub2 | exact Nat.le_of_ble_eq_true rfl)) (by repeat (first | exact lit_int | exact lit_bl | exact lit_neg | exact lit_nil | exact lit_non | exact lit_str | apply lit_cons | apply lit_lst | apply lit_tup | exact lit_var rfl | exact lit_less rfl | apply lit_add2 | apply lit_sub2 | exact Nat.le_of_ble_eq_true rfl)) s1.same fun H' => q _
end Dial

namespace Dial
open PySem PySem.Spec PyProof.Rows L2 Dr DM
theorem all_mk {l : PySem.W.OpenLaw} {w : World} {K : PySem.W.Frag} {h : Heap} {mg : Str → Option Value} {fa : Addr} (X : K.In h) (G : h.Ns mainGlobals mg) (hfa : mg "law" = some (.ref fa))
    {f0 : Addr} {od0 an0 : Option Addr} {sl0 : Array (Option Value)} {oc0 kV0 dc0 pm0 cd0 ct0 : Value}
    {f1 : Addr} {od1 an1 : Option Addr} {sl1 : Array (Option Value)} {oc1 kV1 dc1 pm1 cd1 ct1 : Value}
    {f2 : Addr} {od2 an2 : Option Addr} {sl2 : Array (Option Value)} {oc2 kV2 dc2 pm2 cd2 ct2 : Value}
    {f3 : Addr} {od3 an3 : Option Addr} {sl3 : Array (Option Value)} {oc3 kV3 dc3 pm3 cd3 ct3 : Value}
    {f4 : Addr} {od4 an4 : Option Addr} {sl4 : Array (Option Value)} {oc4 kV4 dc4 pm4 cd4 ct4 : Value}
    {f5 : Addr} {od5 an5 : Option Addr} {sl5 : Array (Option Value)} {oc5 kV5 dc5 pm5 cd5 ct5 : Value}
    {f6 : Addr} {od6 an6 : Option Addr} {sl6 : Array (Option Value)} {oc6 kV6 dc6 pm6 cd6 ct6 : Value}
    {f7 : Addr} {od7 an7 : Option Addr} {sl7 : Array (Option Value)} {oc7 kV7 dc7 pm7 cd7 ct7 : Value}
    {f8 : Addr} {od8 an8 : Option Addr} {sl8 : Array (Option Value)} {oc8 kV8 dc8 pm8 cd8 ct8 : Value}
    {f9 : Addr} {od9 an9 : Option Addr} {sl9 : Array (Option Value)} {oc9 kV9 dc9 pm9 cd9 ct9 : Value}
    {f10 : Addr} {od10 an10 : Option Addr} {sl10 : Array (Option Value)} {oc10 kV10 dc10 pm10 cd10 ct10 : Value}
    {f11 : Addr} {od11 an11 : Option Addr} {sl11 : Array (Option Value)} {oc11 kV11 dc11 pm11 cd11 ct11 : Value}
    {f12 : Addr} {od12 an12 : Option Addr} {sl12 : Array (Option Value)} {oc12 kV12 dc12 pm12 cd12 ct12 : Value}
    {f13 : Addr} {od13 an13 : Option Addr} {sl13 : Array (Option Value)} {oc13 kV13 dc13 pm13 cd13 ct13 : Value}
    {f14 : Addr} {od14 an14 : Option Addr} {sl14 : Array (Option Value)} {oc14 kV14 dc14 pm14 cd14 ct14 : Value}
    {f15 : Addr} {od15 an15 : Option Addr} {sl15 : Array (Option Value)} {oc15 kV15 dc15 pm15 cd15 ct15 : Value}
    {f16 : Addr} {od16 an16 : Option Addr} {sl16 : Array (Option Value)} {oc16 kV16 dc16 pm16 cd16 ct16 : Value}
    {f17 : Addr} {od17 an17 : Option Addr} {sl17 : Array (Option Value)} {oc17 kV17 dc17 pm17 cd17 ct17 : Value}
    {cBadSize : Addr}
    {cBadRow : Addr}
    {cBadDeeds : Addr}
    {cUnlike : Addr}
    {cDialError : Addr}
    (a0 : PySem.W.nsIn K mainGlobals "is_number" = some (some (.ref f0)))
    (l0 : K.lookup f0 = some ⟨oc0, od0, .func (PySem.W.fnOf "is_number" "is_number" (defArgs s_is_number) (defBody s_is_number) (defScope s_is_number) .none kV0 dc0 pm0 an0 cd0 ct0), sl0⟩) (c0 : PySem.W.codeIn K cd0 "is_number" = true) (k0 : PySem.W.keepIn K (.ref f0) = true)
    (a1 : PySem.W.nsIn K mainGlobals "asked_size" = some (some (.ref f1)))
    (l1 : K.lookup f1 = some ⟨oc1, od1, .func (PySem.W.fnOf "asked_size" "asked_size" (defArgs s_asked_size) (defBody s_asked_size) (defScope s_asked_size) .none kV1 dc1 pm1 an1 cd1 ct1), sl1⟩) (c1 : PySem.W.codeIn K cd1 "asked_size" = true) (k1 : PySem.W.keepIn K (.ref f1) = true)
    (a2 : PySem.W.nsIn K mainGlobals "asked_row" = some (some (.ref f2)))
    (l2 : K.lookup f2 = some ⟨oc2, od2, .func (PySem.W.fnOf "asked_row" "asked_row" (defArgs s_asked_row) (defBody s_asked_row) (defScope s_asked_row) .none kV2 dc2 pm2 an2 cd2 ct2), sl2⟩) (c2 : PySem.W.codeIn K cd2 "asked_row" = true) (k2 : PySem.W.keepIn K (.ref f2) = true)
    (a3 : PySem.W.nsIn K mainGlobals "asked_two" = some (some (.ref f3)))
    (l3 : K.lookup f3 = some ⟨oc3, od3, .func (PySem.W.fnOf "asked_two" "asked_two" (defArgs s_asked_two) (defBody s_asked_two) (defScope s_asked_two) .none kV3 dc3 pm3 an3 cd3 ct3), sl3⟩) (c3 : PySem.W.codeIn K cd3 "asked_two" = true) (k3 : PySem.W.keepIn K (.ref f3) = true)
    (a4 : PySem.W.nsIn K mainGlobals "is_deed" = some (some (.ref f4)))
    (l4 : K.lookup f4 = some ⟨oc4, od4, .func (PySem.W.fnOf "is_deed" "is_deed" (defArgs s_is_deed) (defBody s_is_deed) (defScope s_is_deed) .none kV4 dc4 pm4 an4 cd4 ct4), sl4⟩) (c4 : PySem.W.codeIn K cd4 "is_deed" = true) (k4 : PySem.W.keepIn K (.ref f4) = true)
    (a5 : PySem.W.nsIn K mainGlobals "asked_deeds" = some (some (.ref f5)))
    (l5 : K.lookup f5 = some ⟨oc5, od5, .func (PySem.W.fnOf "asked_deeds" "asked_deeds" (defArgs s_asked_deeds) (defBody s_asked_deeds) (defScope s_asked_deeds) .none kV5 dc5 pm5 an5 cd5 ct5), sl5⟩) (c5 : PySem.W.codeIn K cd5 "asked_deeds" = true) (k5 : PySem.W.keepIn K (.ref f5) = true)
    (a6 : PySem.W.nsIn K mainGlobals "turned_by" = some (some (.ref f6)))
    (l6 : K.lookup f6 = some ⟨oc6, od6, .func (PySem.W.fnOf "turned_by" "turned_by" (defArgs s_turned_by) (defBody s_turned_by) (defScope s_turned_by) .none kV6 dc6 pm6 an6 cd6 ct6), sl6⟩) (c6 : PySem.W.codeIn K cd6 "turned_by" = true) (k6 : PySem.W.keepIn K (.ref f6) = true)
    (a7 : PySem.W.nsIn K mainGlobals "turned" = some (some (.ref f7)))
    (l7 : K.lookup f7 = some ⟨oc7, od7, .func (PySem.W.fnOf "turned" "turned" (defArgs s_turned) (defBody s_turned) (defScope s_turned) .none kV7 dc7 pm7 an7 cd7 ct7), sl7⟩) (c7 : PySem.W.codeIn K cd7 "turned" = true) (k7 : PySem.W.keepIn K (.ref f7) = true)
    (a8 : PySem.W.nsIn K mainGlobals "gaps_of" = some (some (.ref f8)))
    (l8 : K.lookup f8 = some ⟨oc8, od8, .func (PySem.W.fnOf "gaps_of" "gaps_of" (defArgs s_gaps_of) (defBody s_gaps_of) (defScope s_gaps_of) .none kV8 dc8 pm8 an8 cd8 ct8), sl8⟩) (c8 : PySem.W.codeIn K cd8 "gaps_of" = true) (k8 : PySem.W.keepIn K (.ref f8) = true)
    (a9 : PySem.W.nsIn K mainGlobals "grown" = some (some (.ref f9)))
    (l9 : K.lookup f9 = some ⟨oc9, od9, .func (PySem.W.fnOf "grown" "grown" (defArgs s_grown) (defBody s_grown) (defScope s_grown) .none kV9 dc9 pm9 an9 cd9 ct9), sl9⟩) (c9 : PySem.W.codeIn K cd9 "grown" = true) (k9 : PySem.W.keepIn K (.ref f9) = true)
    (a10 : PySem.W.nsIn K mainGlobals "best" = some (some (.ref f10)))
    (l10 : K.lookup f10 = some ⟨oc10, od10, .func (PySem.W.fnOf "best" "best" (defArgs s_best) (defBody s_best) (defScope s_best) .none kV10 dc10 pm10 an10 cd10 ct10), sl10⟩) (c10 : PySem.W.codeIn K cd10 "best" = true) (k10 : PySem.W.keepIn K (.ref f10) = true)
    (a11 : PySem.W.nsIn K mainGlobals "apart" = some (some (.ref f11)))
    (l11 : K.lookup f11 = some ⟨oc11, od11, .func (PySem.W.fnOf "apart" "apart" (defArgs s_apart) (defBody s_apart) (defScope s_apart) .none kV11 dc11 pm11 an11 cd11 ct11), sl11⟩) (c11 : PySem.W.codeIn K cd11 "apart" = true) (k11 : PySem.W.keepIn K (.ref f11) = true)
    (a12 : PySem.W.nsIn K mainGlobals "level" = some (some (.ref f12)))
    (l12 : K.lookup f12 = some ⟨oc12, od12, .func (PySem.W.fnOf "level" "level" (defArgs s_level) (defBody s_level) (defScope s_level) .none kV12 dc12 pm12 an12 cd12 ct12), sl12⟩) (c12 : PySem.W.codeIn K cd12 "level" = true) (k12 : PySem.W.keepIn K (.ref f12) = true)
    (a13 : PySem.W.nsIn K mainGlobals "_law_ask" = some (some (.ref f13)))
    (l13 : K.lookup f13 = some ⟨oc13, od13, .func (PySem.W.fnOf "_law_ask" "_law_ask" (defArgs s__law_ask) (defBody s__law_ask) (defScope s__law_ask) .none kV13 dc13 pm13 an13 cd13 ct13), sl13⟩) (c13 : PySem.W.codeIn K cd13 "_law_ask" = true) (k13 : PySem.W.keepIn K (.ref f13) = true)
    (a14 : PySem.W.nsIn K mainGlobals "_law_rows_asked" = some (some (.ref f14)))
    (l14 : K.lookup f14 = some ⟨oc14, od14, .func (PySem.W.fnOf "_law_rows_asked" "_law_rows_asked" (defArgs s__law_rows_asked) (defBody s__law_rows_asked) (defScope s__law_rows_asked) .none kV14 dc14 pm14 an14 cd14 ct14), sl14⟩) (c14 : PySem.W.codeIn K cd14 "_law_rows_asked" = true) (k14 : PySem.W.keepIn K (.ref f14) = true)
    (a15 : PySem.W.nsIn K mainGlobals "_law_deeds_asked" = some (some (.ref f15)))
    (l15 : K.lookup f15 = some ⟨oc15, od15, .func (PySem.W.fnOf "_law_deeds_asked" "_law_deeds_asked" (defArgs s__law_deeds_asked) (defBody s__law_deeds_asked) (defScope s__law_deeds_asked) .none kV15 dc15 pm15 an15 cd15 ct15), sl15⟩) (c15 : PySem.W.codeIn K cd15 "_law_deeds_asked" = true) (k15 : PySem.W.keepIn K (.ref f15) = true)
    (a16 : PySem.W.nsIn K mainGlobals "_law_told" = some (some (.ref f16)))
    (l16 : K.lookup f16 = some ⟨oc16, od16, .func (PySem.W.fnOf "_law_told" "_law_told" (defArgs s__law_told) (defBody s__law_told) (defScope s__law_told) .none kV16 dc16 pm16 an16 cd16 ct16), sl16⟩) (c16 : PySem.W.codeIn K cd16 "_law_told" = true) (k16 : PySem.W.keepIn K (.ref f16) = true)
    (a17 : PySem.W.nsIn K mainGlobals "law" = some (some (.ref f17)))
    (l17 : K.lookup f17 = some ⟨oc17, od17, .func (PySem.W.fnOf "law" "law" (defArgs s_law) (defBody s_law) (defScope s_law) .none kV17 dc17 pm17 an17 cd17 ct17), sl17⟩) (c17 : PySem.W.codeIn K cd17 "law" = true) (k17 : PySem.W.keepIn K (.ref f17) = true)
    (eBadSizeg : PySem.W.nsIn K mainGlobals "BadSize" = some (some (.ref cBadSize))) (eBadSizex : PySem.W.excIn K cBadSize [.type "ValueError", .type "Exception", .type "BaseException", .type "object"] "ValueError.__new__" = true) (eBadSizek : PySem.W.keepIn K (.ref cBadSize) = true) (eBadSizeb : PySem.W.subIn K (.ref cBadSize) (.type "BaseException") = some true) (eBadSizet : PySem.W.typeIn K (.ref cBadSize) = some (.type "type")) (eBadSizeh : PySem.W.findIn K (.ref cBadSize) "__getattribute__" = some (some (.builtin "BaseException.__getattribute__"))) (eBadSizei : PySem.W.findIn K (.ref cBadSize) "__getattr__" = some none) (eBadSized : PySem.W.hasDictIn K cBadSize = true) (eBadSizea : PySem.W.findIn K (.ref cBadSize) "__class__" = some (some (.builtin "object.__class__"))) (eBadSizem : PySem.W.mroIn K cBadSize (.type "object") = some true) (eBadSizes : PySem.W.subIn K (.ref cBadSize) (.ref cBadSize) = some true)
    (eBadRowg : PySem.W.nsIn K mainGlobals "BadRow" = some (some (.ref cBadRow))) (eBadRowx : PySem.W.excIn K cBadRow [.type "ValueError", .type "Exception", .type "BaseException", .type "object"] "ValueError.__new__" = true) (eBadRowk : PySem.W.keepIn K (.ref cBadRow) = true) (eBadRowb : PySem.W.subIn K (.ref cBadRow) (.type "BaseException") = some true) (eBadRowt : PySem.W.typeIn K (.ref cBadRow) = some (.type "type")) (eBadRowh : PySem.W.findIn K (.ref cBadRow) "__getattribute__" = some (some (.builtin "BaseException.__getattribute__"))) (eBadRowi : PySem.W.findIn K (.ref cBadRow) "__getattr__" = some none) (eBadRowd : PySem.W.hasDictIn K cBadRow = true) (eBadRowa : PySem.W.findIn K (.ref cBadRow) "__class__" = some (some (.builtin "object.__class__"))) (eBadRowm : PySem.W.mroIn K cBadRow (.type "object") = some true) (eBadRows : PySem.W.subIn K (.ref cBadRow) (.ref cBadRow) = some true)
    (eBadDeedsg : PySem.W.nsIn K mainGlobals "BadDeeds" = some (some (.ref cBadDeeds))) (eBadDeedsx : PySem.W.excIn K cBadDeeds [.type "ValueError", .type "Exception", .type "BaseException", .type "object"] "ValueError.__new__" = true) (eBadDeedsk : PySem.W.keepIn K (.ref cBadDeeds) = true) (eBadDeedsb : PySem.W.subIn K (.ref cBadDeeds) (.type "BaseException") = some true) (eBadDeedst : PySem.W.typeIn K (.ref cBadDeeds) = some (.type "type")) (eBadDeedsh : PySem.W.findIn K (.ref cBadDeeds) "__getattribute__" = some (some (.builtin "BaseException.__getattribute__"))) (eBadDeedsi : PySem.W.findIn K (.ref cBadDeeds) "__getattr__" = some none) (eBadDeedsd : PySem.W.hasDictIn K cBadDeeds = true) (eBadDeedsa : PySem.W.findIn K (.ref cBadDeeds) "__class__" = some (some (.builtin "object.__class__"))) (eBadDeedsm : PySem.W.mroIn K cBadDeeds (.type "object") = some true) (eBadDeedss : PySem.W.subIn K (.ref cBadDeeds) (.ref cBadDeeds) = some true)
    (eUnlikeg : PySem.W.nsIn K mainGlobals "Unlike" = some (some (.ref cUnlike))) (eUnlikex : PySem.W.excIn K cUnlike [.type "ValueError", .type "Exception", .type "BaseException", .type "object"] "ValueError.__new__" = true) (eUnlikek : PySem.W.keepIn K (.ref cUnlike) = true) (eUnlikeb : PySem.W.subIn K (.ref cUnlike) (.type "BaseException") = some true) (eUnliket : PySem.W.typeIn K (.ref cUnlike) = some (.type "type")) (eUnlikeh : PySem.W.findIn K (.ref cUnlike) "__getattribute__" = some (some (.builtin "BaseException.__getattribute__"))) (eUnlikei : PySem.W.findIn K (.ref cUnlike) "__getattr__" = some none) (eUnliked : PySem.W.hasDictIn K cUnlike = true) (eUnlikea : PySem.W.findIn K (.ref cUnlike) "__class__" = some (some (.builtin "object.__class__"))) (eUnlikem : PySem.W.mroIn K cUnlike (.type "object") = some true) (eUnlikes : PySem.W.subIn K (.ref cUnlike) (.ref cUnlike) = some true)
    (eDialErrorg : PySem.W.nsIn K mainGlobals "DialError" = some (some (.ref cDialError))) (eDialErrorx : PySem.W.excIn K cDialError [.type "ValueError", .type "Exception", .type "BaseException", .type "object"] "ValueError.__new__" = true) (eDialErrork : PySem.W.keepIn K (.ref cDialError) = true) (eDialErrorb : PySem.W.subIn K (.ref cDialError) (.type "BaseException") = some true) (eDialErrort : PySem.W.typeIn K (.ref cDialError) = some (.type "type")) (eDialErrorh : PySem.W.findIn K (.ref cDialError) "__getattribute__" = some (some (.builtin "BaseException.__getattribute__"))) (eDialErrori : PySem.W.findIn K (.ref cDialError) "__getattr__" = some none) (eDialErrord : PySem.W.hasDictIn K cDialError = true) (eDialErrora : PySem.W.findIn K (.ref cDialError) "__class__" = some (some (.builtin "object.__class__"))) (eDialErrorm : PySem.W.mroIn K cDialError (.type "object") = some true) (eDialErrors : PySem.W.subIn K (.ref cDialError) (.ref cDialError) = some true)
    (fBadSize : PySem.W.subIn K (.ref cBadSize) (.ref cDialError) = some true) (vBadSize : PySem.W.subIn K (.ref cBadSize) (.type "ValueError") = some true)
    (iBadSizeBadRow : PySem.W.subIn K (.ref cBadSize) (.ref cBadRow) = some false)
    (iBadSizeBadDeeds : PySem.W.subIn K (.ref cBadSize) (.ref cBadDeeds) = some false)
    (iBadSizeUnlike : PySem.W.subIn K (.ref cBadSize) (.ref cUnlike) = some false)
    (fBadRow : PySem.W.subIn K (.ref cBadRow) (.ref cDialError) = some true) (vBadRow : PySem.W.subIn K (.ref cBadRow) (.type "ValueError") = some true)
    (iBadRowBadSize : PySem.W.subIn K (.ref cBadRow) (.ref cBadSize) = some false)
    (iBadRowBadDeeds : PySem.W.subIn K (.ref cBadRow) (.ref cBadDeeds) = some false)
    (iBadRowUnlike : PySem.W.subIn K (.ref cBadRow) (.ref cUnlike) = some false)
    (fBadDeeds : PySem.W.subIn K (.ref cBadDeeds) (.ref cDialError) = some true) (vBadDeeds : PySem.W.subIn K (.ref cBadDeeds) (.type "ValueError") = some true)
    (iBadDeedsBadSize : PySem.W.subIn K (.ref cBadDeeds) (.ref cBadSize) = some false)
    (iBadDeedsBadRow : PySem.W.subIn K (.ref cBadDeeds) (.ref cBadRow) = some false)
    (iBadDeedsUnlike : PySem.W.subIn K (.ref cBadDeeds) (.ref cUnlike) = some false)
    (fUnlike : PySem.W.subIn K (.ref cUnlike) (.ref cDialError) = some true) (vUnlike : PySem.W.subIn K (.ref cUnlike) (.type "ValueError") = some true)
    (iUnlikeBadSize : PySem.W.subIn K (.ref cUnlike) (.ref cBadSize) = some false)
    (iUnlikeBadRow : PySem.W.subIn K (.ref cUnlike) (.ref cBadRow) = some false)
    (iUnlikeBadDeeds : PySem.W.subIn K (.ref cUnlike) (.ref cBadDeeds) = some false)
    (h_get : PySem.W.specialIn K (.builtin "object.__class__") "__get__" = some (some (.builtin "getset_descriptor.__get__")))
    (h_take : PySem.W.takesIn K (.builtin "object.__class__") = some true)
    (z_ValueError : PySem.W.nsIn K mainGlobals "ValueError" = some none)
    (z_abs : PySem.W.nsIn K mainGlobals "abs" = some none)
    (z_all : PySem.W.nsIn K mainGlobals "all" = some none)
    (z_bool : PySem.W.nsIn K mainGlobals "bool" = some none)
    (z_enumerate : PySem.W.nsIn K mainGlobals "enumerate" = some none)
    (z_int : PySem.W.nsIn K mainGlobals "int" = some none)
    (z_isinstance : PySem.W.nsIn K mainGlobals "isinstance" = some none)
    (z_len : PySem.W.nsIn K mainGlobals "len" = some none)
    (z_list : PySem.W.nsIn K mainGlobals "list" = some none)
    (z_min : PySem.W.nsIn K mainGlobals "min" = some none)
    (z_range : PySem.W.nsIn K mainGlobals "range" = some none)
    (z_sorted : PySem.W.nsIn K mainGlobals "sorted" = some none)
    (z_sum : PySem.W.nsIn K mainGlobals "sum" = some none)
    (z_tuple : PySem.W.nsIn K mainGlobals "tuple" = some none)
    (z_zip : PySem.W.nsIn K mainGlobals "zip" = some none) :
    ∃ fd : FuncData, (∀ (s : Shared) (v : Value), BindsTo s fd ⟨[v], []⟩ [("_law_script", v)]) ∧ ∀ base : Heap, K.In base → base.Ns mainGlobals mg → FnOk l.prog w K mg base CX0 9 fa fd ["_law_script"] (sp_law K) := by
  have e := hfa.symm.trans (PySem.W.mg_of X G a17)
  cases e
  have F0 := fun_mk (st := s_is_number) l0 c0 k0
  have b0 := F0.binds (ps := ["thing"]) fun _ _ _ _ _ _ us hl => match us, hl with | [_], _ => rfl
  have F1 := fun_mk (st := s_asked_size) l1 c1 k1
  have b1 := F1.binds (ps := ["size"]) fun _ _ _ _ _ _ us hl => match us, hl with | [_], _ => rfl
  have F2 := fun_mk (st := s_asked_row) l2 c2 k2
  have b2 := F2.binds (ps := ["size", "row"]) fun _ _ _ _ _ _ us hl => match us, hl with | [_, _], _ => rfl
  have F3 := fun_mk (st := s_asked_two) l3 c3 k3
  have b3 := F3.binds (ps := ["size", "one", "other"]) fun _ _ _ _ _ _ us hl => match us, hl with | [_, _, _], _ => rfl
  have F4 := fun_mk (st := s_is_deed) l4 c4 k4
  have b4 := F4.binds (ps := ["many", "first", "end", "steps"]) fun _ _ _ _ _ _ us hl => match us, hl with | [_, _, _, _], _ => rfl
  have F5 := fun_mk (st := s_asked_deeds) l5 c5 k5
  have b5 := F5.binds (ps := ["many", "deeds"]) fun _ _ _ _ _ _ us hl => match us, hl with | [_, _], _ => rfl
  have F6 := fun_mk (st := s_turned_by) l6 c6 k6
  have b6 := F6.binds (ps := ["size", "row", "deeds"]) fun _ _ _ _ _ _ us hl => match us, hl with | [_, _, _], _ => rfl
  have F7 := fun_mk (st := s_turned) l7 c7 k7
  have b7 := F7.binds (ps := ["size", "row", "deeds"]) fun _ _ _ _ _ _ us hl => match us, hl with | [_, _, _], _ => rfl
  have F8 := fun_mk (st := s_gaps_of) l8 c8 k8
  have b8 := F8.binds (ps := ["size", "one", "other"]) fun _ _ _ _ _ _ us hl => match us, hl with | [_, _, _], _ => rfl
  have F9 := fun_mk (st := s_grown) l9 c9 k9
  have b9 := F9.binds (ps := ["size", "gaps"]) fun _ _ _ _ _ _ us hl => match us, hl with | [_, _], _ => rfl
  have F10 := fun_mk (st := s_best) l10 c10 k10
  have b10 := F10.binds (ps := ["size", "one", "other"]) fun _ _ _ _ _ _ us hl => match us, hl with | [_, _, _], _ => rfl
  have F11 := fun_mk (st := s_apart) l11 c11 k11
  have b11 := F11.binds (ps := ["size", "one", "other"]) fun _ _ _ _ _ _ us hl => match us, hl with | [_, _, _], _ => rfl
  have F12 := fun_mk (st := s_level) l12 c12 k12
  have b12 := F12.binds (ps := ["size", "row"]) fun _ _ _ _ _ _ us hl => match us, hl with | [_, _], _ => rfl
  have F13 := fun_mk (st := s__law_ask) l13 c13 k13
  have b13 := F13.binds (ps := ["_law_door", "_law_size", "_law_one", "_law_other"]) fun _ _ _ _ _ _ us hl => match us, hl with | [_, _, _, _], _ => rfl
  have F14 := fun_mk (st := s__law_rows_asked) l14 c14 k14
  have b14 := F14.binds (ps := ["_law_which", "_law_more"]) fun _ _ _ _ _ _ us hl => match us, hl with | [_, _], _ => rfl
  have F15 := fun_mk (st := s__law_deeds_asked) l15 c15 k15
  have b15 := F15.binds (ps := ["_law_which", "_law_more"]) fun _ _ _ _ _ _ us hl => match us, hl with | [_, _], _ => rfl
  have F16 := fun_mk (st := s__law_told) l16 c16 k16
  have b16 := F16.binds (ps := ["_law_kind", "_law_which", "_law_more"]) fun _ _ _ _ _ _ us hl => match us, hl with | [_, _, _], _ => rfl
  have F17 := fun_mk (st := s_law) l17 c17 k17
  have b17 := F17.binds (ps := ["_law_script"]) fun _ _ _ _ _ _ us hl => match us, hl with | [_], _ => rfl
  let T : Txt K mg := ⟨_,
    _,
    ⟨F0, PySem.W.mg_of X G a0, b0⟩,
    _,
    _,
    ⟨F1, PySem.W.mg_of X G a1, b1⟩,
    _,
    _,
    ⟨F2, PySem.W.mg_of X G a2, b2⟩,
    _,
    _,
    ⟨F3, PySem.W.mg_of X G a3, b3⟩,
    _,
    _,
    ⟨F4, PySem.W.mg_of X G a4, b4⟩,
    _,
    _,
    ⟨F5, PySem.W.mg_of X G a5, b5⟩,
    _,
    _,
    ⟨F6, PySem.W.mg_of X G a6, b6⟩,
    _,
    _,
    ⟨F7, PySem.W.mg_of X G a7, b7⟩,
    _,
    _,
    ⟨F8, PySem.W.mg_of X G a8, b8⟩,
    _,
    _,
    ⟨F9, PySem.W.mg_of X G a9, b9⟩,
    _,
    _,
    ⟨F10, PySem.W.mg_of X G a10, b10⟩,
    _,
    _,
    ⟨F11, PySem.W.mg_of X G a11, b11⟩,
    _,
    _,
    ⟨F12, PySem.W.mg_of X G a12, b12⟩,
    _,
    _,
    ⟨F13, PySem.W.mg_of X G a13, b13⟩,
    _,
    _,
    ⟨F14, PySem.W.mg_of X G a14, b14⟩,
    _,
    _,
    ⟨F15, PySem.W.mg_of X G a15, b15⟩,
    _,
    _,
    ⟨F16, PySem.W.mg_of X G a16, b16⟩,
    _,
    _,
    ⟨F17, PySem.W.mg_of X G a17, b17⟩,
    _,
    ⟨PySem.W.mg_of X G eBadSizeg, eBadSizex, eBadSizek, eBadSizeb, eBadSizet, ⟨eBadSizeh, eBadSizei, eBadSizeb, eBadSized, eBadSizea, h_get, h_take, eBadSizem⟩⟩,
    _,
    ⟨PySem.W.mg_of X G eBadRowg, eBadRowx, eBadRowk, eBadRowb, eBadRowt, ⟨eBadRowh, eBadRowi, eBadRowb, eBadRowd, eBadRowa, h_get, h_take, eBadRowm⟩⟩,
    _,
    ⟨PySem.W.mg_of X G eBadDeedsg, eBadDeedsx, eBadDeedsk, eBadDeedsb, eBadDeedst, ⟨eBadDeedsh, eBadDeedsi, eBadDeedsb, eBadDeedsd, eBadDeedsa, h_get, h_take, eBadDeedsm⟩⟩,
    _,
    ⟨PySem.W.mg_of X G eUnlikeg, eUnlikex, eUnlikek, eUnlikeb, eUnliket, ⟨eUnlikeh, eUnlikei, eUnlikeb, eUnliked, eUnlikea, h_get, h_take, eUnlikem⟩⟩,
    _,
    ⟨PySem.W.mg_of X G eDialErrorg, eDialErrorx, eDialErrork, eDialErrorb, eDialErrort, ⟨eDialErrorh, eDialErrori, eDialErrorb, eDialErrord, eDialErrora, h_get, h_take, eDialErrorm⟩⟩,
    exm_own eDialErrorb eDialErrord eDialErrort fBadSize,
    kit_val vBadSize,
    kit_own eBadSized eBadSizet eBadSizes eBadSizes,
    kit_own eBadRowd eBadRowt eBadRows iBadSizeBadRow,
    kit_own eBadDeedsd eBadDeedst eBadDeedss iBadSizeBadDeeds,
    kit_own eUnliked eUnliket eUnlikes iBadSizeUnlike,
    exm_own eDialErrorb eDialErrord eDialErrort fBadRow,
    kit_val vBadRow,
    kit_own eBadSized eBadSizet eBadSizes iBadRowBadSize,
    kit_own eBadRowd eBadRowt eBadRows eBadRows,
    kit_own eBadDeedsd eBadDeedst eBadDeedss iBadRowBadDeeds,
    kit_own eUnliked eUnliket eUnlikes iBadRowUnlike,
    exm_own eDialErrorb eDialErrord eDialErrort fBadDeeds,
    kit_val vBadDeeds,
    kit_own eBadSized eBadSizet eBadSizes iBadDeedsBadSize,
    kit_own eBadRowd eBadRowt eBadRows iBadDeedsBadRow,
    kit_own eBadDeedsd eBadDeedst eBadDeedss eBadDeedss,
    kit_own eUnliked eUnliket eUnlikes iBadDeedsUnlike,
    exm_own eDialErrorb eDialErrord eDialErrort fUnlike,
    kit_val vUnlike,
    kit_own eBadSized eBadSizet eBadSizes iUnlikeBadSize,
    kit_own eBadRowd eBadRowt eBadRows iUnlikeBadRow,
    kit_own eBadDeedsd eBadDeedst eBadDeedss iUnlikeBadDeeds,
    kit_own eUnliked eUnliket eUnlikes eUnlikes,
    PySem.W.mg_none_of X G z_ValueError,
    PySem.W.mg_none_of X G z_abs,
    PySem.W.mg_none_of X G z_all,
    PySem.W.mg_none_of X G z_bool,
    PySem.W.mg_none_of X G z_enumerate,
    PySem.W.mg_none_of X G z_int,
    PySem.W.mg_none_of X G z_isinstance,
    PySem.W.mg_none_of X G z_len,
    PySem.W.mg_none_of X G z_list,
    PySem.W.mg_none_of X G z_min,
    PySem.W.mg_none_of X G z_range,
    PySem.W.mg_none_of X G z_sorted,
    PySem.W.mg_none_of X G z_sum,
    PySem.W.mg_none_of X G z_tuple,
    PySem.W.mg_none_of X G z_zip⟩
  exact ⟨_, fun s v => .of_eq rfl, fun base _ _ => ok_law T⟩

end Dial
open PySem PySem.W PyProof.Rows
set_option maxHeartbeats 0 in
theorem PySem.Challenge.cw_dialrow_k06_refused_holds : PySem.Challenge.rw_dialrow_k06_refused.Holds := by
  w_on; o_law; k_head; (case hw => w_witness2)
  k_fill
  refine L2.walk_ofB (l := PySem.Challenge.rw_dialrow_k06_refused) (n := 63) (k := 9) (x := "_law_script") (CX := fun _ => L2.CX0) (sp := fun w => Dial.sp_law _) rfl (by decide) rfl ⟨rfl, by decide, by decide⟩ (fun w h Y => PySem.W.kIn_of Y) ?F (fun w H a ns hl hb _ hS => Dial.sp_law_of hl hb hS) (fun _ _ _ _ _ h => h)
  case F =>
    intro w mg fa h KX G hmg
    refine' Dial.all_mk KX G hmg ?a0 ?l0 ?c0 ?k0 ?a1 ?l1 ?c1 ?k1 ?a2 ?l2 ?c2 ?k2 ?a3 ?l3 ?c3 ?k3 ?a4 ?l4 ?c4 ?k4 ?a5 ?l5 ?c5 ?k5 ?a6 ?l6 ?c6 ?k6 ?a7 ?l7 ?c7 ?k7 ?a8 ?l8 ?c8 ?k8 ?a9 ?l9 ?c9 ?k9 ?a10 ?l10 ?c10 ?k10 ?a11 ?l11 ?c11 ?k11 ?a12 ?l12 ?c12 ?k12 ?a13 ?l13 ?c13 ?k13 ?a14 ?l14 ?c14 ?k14 ?a15 ?l15 ?c15 ?k15 ?a16 ?l16 ?c16 ?k16 ?a17 ?l17 ?c17 ?k17 ?eBadSizeg ?eBadSizex ?eBadSizek ?eBadSizeb ?eBadSizet ?eBadSizeh ?eBadSizei ?eBadSized ?eBadSizea ?eBadSizem ?eBadSizes ?eBadRowg ?eBadRowx ?eBadRowk ?eBadRowb ?eBadRowt ?eBadRowh ?eBadRowi ?eBadRowd ?eBadRowa ?eBadRowm ?eBadRows ?eBadDeedsg ?eBadDeedsx ?eBadDeedsk ?eBadDeedsb ?eBadDeedst ?eBadDeedsh ?eBadDeedsi ?eBadDeedsd ?eBadDeedsa ?eBadDeedsm ?eBadDeedss ?eUnlikeg ?eUnlikex ?eUnlikek ?eUnlikeb ?eUnliket ?eUnlikeh ?eUnlikei ?eUnliked ?eUnlikea ?eUnlikem ?eUnlikes ?eDialErrorg ?eDialErrorx ?eDialErrork ?eDialErrorb ?eDialErrort ?eDialErrorh ?eDialErrori ?eDialErrord ?eDialErrora ?eDialErrorm ?eDialErrors ?fBadSize ?vBadSize ?iBadSizeBadRow ?iBadSizeBadDeeds ?iBadSizeUnlike ?fBadRow ?vBadRow ?iBadRowBadSize ?iBadRowBadDeeds ?iBadRowUnlike ?fBadDeeds ?vBadDeeds ?iBadDeedsBadSize ?iBadDeedsBadRow ?iBadDeedsUnlike ?fUnlike ?vUnlike ?iUnlikeBadSize ?iUnlikeBadRow ?iUnlikeBadDeeds ?h_get ?h_take ?z_ValueError ?z_abs ?z_all ?z_bool ?z_enumerate ?z_int ?z_isinstance ?z_len ?z_list ?z_min ?z_range ?z_sorted ?z_sum ?z_tuple ?z_zip
    (case a0 => k_is)
    (case l0 => k_is)
    (case c0 => k_is)
    (case k0 => k_is)
    (case a1 => k_is)
    (case l1 => k_is)
    (case c1 => k_is)
    (case k1 => k_is)
    (case a2 => k_is)
    (case l2 => k_is)
    (case c2 => k_is)
    (case k2 => k_is)
    (case a3 => k_is)
    (case l3 => k_is)
    (case c3 => k_is)
    (case k3 => k_is)
    (case a4 => k_is)
    (case l4 => k_is)
    (case c4 => k_is)
    (case k4 => k_is)
    (case a5 => k_is)
    (case l5 => k_is)
    (case c5 => k_is)
    (case k5 => k_is)
    (case a6 => k_is)
    (case l6 => k_is)
    (case c6 => k_is)
    (case k6 => k_is)
    (case a7 => k_is)
    (case l7 => k_is)
    (case c7 => k_is)
    (case k7 => k_is)
    (case a8 => k_is)
    (case l8 => k_is)
    (case c8 => k_is)
    (case k8 => k_is)
    (case a9 => k_is)
    (case l9 => k_is)
    (case c9 => k_is)
    (case k9 => k_is)
    (case a10 => k_is)
    (case l10 => k_is)
    (case c10 => k_is)
    (case k10 => k_is)
    (case a11 => k_is)
    (case l11 => k_is)
    (case c11 => k_is)
    (case k11 => k_is)
    (case a12 => k_is)
    (case l12 => k_is)
    (case c12 => k_is)
    (case k12 => k_is)
    (case a13 => k_is)
    (case l13 => k_is)
    (case c13 => k_is)
    (case k13 => k_is)
    (case a14 => k_is)
    (case l14 => k_is)
    (case c14 => k_is)
    (case k14 => k_is)
    (case a15 => k_is)
    (case l15 => k_is)
    (case c15 => k_is)
    (case k15 => k_is)
    (case a16 => k_is)
    (case l16 => k_is)
    (case c16 => k_is)
    (case k16 => k_is)
    (case a17 => k_is)
    (case l17 => k_is)
    (case c17 => k_is)
    (case k17 => k_is)
    (case eBadSizeg => k_is)
    (case eBadSizex => k_exc)
    (case eBadSizek => k_is)
    (case eBadSizeb => k_is)
    (case eBadSizet => k_is)
    (case eBadSizeh => k_is)
    (case eBadSizei => k_is)
    (case eBadSized => k_is)
    (case eBadSizea => k_is)
    (case eBadSizem => k_is)
    (case eBadSizes => first | rfl | k_is)
    (case eBadRowg => k_is)
    (case eBadRowx => k_exc)
    (case eBadRowk => k_is)
    (case eBadRowb => k_is)
    (case eBadRowt => k_is)
    (case eBadRowh => k_is)
    (case eBadRowi => k_is)
    (case eBadRowd => k_is)
    (case eBadRowa => k_is)
    (case eBadRowm => k_is)
    (case eBadRows => first | rfl | k_is)
    (case eBadDeedsg => k_is)
    (case eBadDeedsx => k_exc)
    (case eBadDeedsk => k_is)
    (case eBadDeedsb => k_is)
    (case eBadDeedst => k_is)
    (case eBadDeedsh => k_is)
    (case eBadDeedsi => k_is)
    (case eBadDeedsd => k_is)
    (case eBadDeedsa => k_is)
    (case eBadDeedsm => k_is)
    (case eBadDeedss => first | rfl | k_is)
    (case eUnlikeg => k_is)
    (case eUnlikex => k_exc)
    (case eUnlikek => k_is)
    (case eUnlikeb => k_is)
    (case eUnliket => k_is)
    (case eUnlikeh => k_is)
    (case eUnlikei => k_is)
    (case eUnliked => k_is)
    (case eUnlikea => k_is)
    (case eUnlikem => k_is)
    (case eUnlikes => first | rfl | k_is)
    (case eDialErrorg => k_is)
    (case eDialErrorx => k_exc)
    (case eDialErrork => k_is)
    (case eDialErrorb => k_is)
    (case eDialErrort => k_is)
    (case eDialErrorh => k_is)
    (case eDialErrori => k_is)
    (case eDialErrord => k_is)
    (case eDialErrora => k_is)
    (case eDialErrorm => k_is)
    (case eDialErrors => first | rfl | k_is)
    (case fBadSize => k_is)
    (case vBadSize => k_is)
    (case iBadSizeBadRow => k_is)
    (case iBadSizeBadDeeds => k_is)
    (case iBadSizeUnlike => k_is)
    (case fBadRow => k_is)
    (case vBadRow => k_is)
    (case iBadRowBadSize => k_is)
    (case iBadRowBadDeeds => k_is)
    (case iBadRowUnlike => k_is)
    (case fBadDeeds => k_is)
    (case vBadDeeds => k_is)
    (case iBadDeedsBadSize => k_is)
    (case iBadDeedsBadRow => k_is)
    (case iBadDeedsUnlike => k_is)
    (case fUnlike => k_is)
    (case vUnlike => k_is)
    (case iUnlikeBadSize => k_is)
    (case iUnlikeBadRow => k_is)
    (case iUnlikeBadDeeds => k_is)
    (case h_get => k_is)
    (case h_take => k_is)
    (case z_ValueError => k_is)
    (case z_abs => k_is)
    (case z_all => k_is)
    (case z_bool => k_is)
    (case z_enumerate => k_is)
    (case z_int => k_is)
    (case z_isinstance => k_is)
    (case z_len => k_is)
    (case z_list => k_is)
    (case z_min => k_is)
    (case z_range => k_is)
    (case z_sorted => k_is)
    (case z_sum => k_is)
    (case z_tuple => k_is)
    (case z_zip => k_is)

