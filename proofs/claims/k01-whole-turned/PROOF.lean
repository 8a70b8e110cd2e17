import PyProof.Rows.All
import Wide.All
import OpenK.AllK
import Wide.FinOn
import HandS.ForMost
import HandS.Walk
import HandS.Wide
import HandS.IsInst
import HandS.Style
import HandS.SortRule
import KE.KSortTupG
import HandS.EndBits
import KE.IntBitsLaws
import PySem.Challenge.RW_dialrow_k01_whole_turned
set_option Elab.async false
set_option linter.all false
set_option maxRecDepth 100000
set_option maxHeartbeats 8000000
/-! A layer of our own over HandS: the stable part G of a heap H, and what is owned. -/
namespace Dr
open PySem L2
/-! ### heaps with a stable part -/
theorem same_new {H : Hp} {p : Addr} {o : HO} (h : H p = none) : Same H (upd H p o) := fun b x e => by
  rw [upd_ne (ne_of_none e h)]
  exact e
theorem Same.tup {K : PySem.W.Frag} {H H' : Hp} {a : Addr} {xs : List V} (e : Same H H') (h : SqT K H a xs) : SqT K H' a xs := by
  rcases h with (h | ⟨o, h⟩) | h
  · exact .inl (.inl (e _ _ h))
  · exact .inl (.inr ⟨o, e _ _ h⟩)
  · exact .inr h
structure Gr (G H G' H' : Hp) : Prop where
  g : Same G G'
  h : Same H H'
  s : Same G' H'
  n : ∀ a, H a ≠ none → G a = none → G' a = none
theorem Gr.refl {G H : Hp} (e : Same G H) : Gr G H G H := ⟨Same.refl _, Same.refl _, e, fun _ _ h => h⟩
theorem some_ne {H : Hp} {a : Addr} {o : HO} (h : H a = some o) : H a ≠ none := by rw [h]; exact fun z => by cases z
theorem ne_some {H : Hp} {a : Addr} (h : H a ≠ none) : ∃ o, H a = some o := by
  cases e : H a with
  | none => exact absurd e h
  | some o => exact ⟨o, rfl⟩
theorem Same.ne {H H' : Hp} {a : Addr} (e : Same H H') (h : H a ≠ none) : H' a ≠ none := by
  obtain ⟨o, q⟩ := ne_some h
  exact some_ne (e _ _ q)
theorem Gr.trans {G H G1 H1 G2 H2 : Hp} (a : Gr G H G1 H1) (b : Gr G1 H1 G2 H2) : Gr G H G2 H2 :=
  ⟨a.g.trans b.g, a.h.trans b.h, b.s, fun x h h0 => b.n x (Same.ne a.h h) (a.n x h h0)⟩
/-- a new object, of the stable part -/
theorem Gr.new {G H : Hp} {p : Addr} {o : HO} (e : Same G H) (h : H p = none) : Gr G H (upd G p o) (upd H p o) := by
  have g0 : G p = none := e.free h
  refine ⟨same_new g0, same_new h, fun b x q => ?_, fun a ha h0 => ?_⟩
  · by_cases z : b = p
    · subst z; rw [upd_same] at q ⊢; exact q
    · rw [upd_ne z] at q ⊢; exact e _ _ q
  · have z : a ≠ p := fun z => ha (by rw [z]; exact h)
    rw [upd_ne z]; exact h0
/-- a new object, not of the stable part -/
theorem Gr.out {G H : Hp} {p : Addr} {o : HO} (e : Same G H) (h : H p = none) : Gr G H G (upd H p o) :=
  ⟨Same.refl _, same_new h, e.trans (same_new h), fun _ _ h => h⟩
/-! ### data -/
section
variable {K : PySem.W.Frag} {G G' : Hp}
mutual
theorem Dp.mono (e : Same G G') : ∀ (d : PyData) (v : V), Dp K G v d → Dp K G' v d
  | .none, _, h => by cases h; exact .non
  | .bool b, _, h => by cases h; exact .bl b
  | .int i, _, h => by cases h; exact .int i
  | .str x, _, h => by cases h; exact .str x
  | .list ds, _, h => by
    cases h with
    | lst hs ha => exact .lst (e.seq hs) (Dp.monoAll e ds _ ha)
  | .tuple ds, _, h => by
    cases h with
    | tup hs ha => exact .tup (Same.tup e hs) (Dp.monoAll e ds _ ha)
  | .dict _, _, h => by cases h
theorem Dp.monoAll (e : Same G G') : ∀ (ds : List PyData) (vs : List V), DpAll K G vs ds → DpAll K G' vs ds
  | [], _, h => by cases h; exact .nil
  | d :: ds, _, h => by
    cases h with
    | cons h1 h2 => exact .cons (Dp.mono e d _ h1) (Dp.monoAll e ds _ h2)
end
end
theorem DpAll.len {K : PySem.W.Frag} {G : Hp} : ∀ {vs : List V} {ds : List PyData}, DpAll K G vs ds → vs.length = ds.length
  | _, _, .nil => rfl
  | _, _, .cons _ h => by rw [List.length_cons, List.length_cons, DpAll.len h]
theorem DpAll.get {K : PySem.W.Frag} {G : Hp} : ∀ {vs : List V} {ds : List PyData} {i : Nat} {d : PyData}, DpAll K G vs ds → ds[i]? = some d → ∃ v, vs[i]? = some v ∧ Dp K G v d
  | _, _, i, _, .nil, h => by simp at h
  | _, _, 0, _, .cons h1 _, h => by
    have e := Option.some.inj h
    subst e
    exact ⟨_, rfl, h1⟩
  | _, _, i + 1, _, .cons _ h2, h => DpAll.get (i := i) h2 h
theorem DpAll.append {K : PySem.W.Frag} {G : Hp} : ∀ {vs ws : List V} {ds es : List PyData}, DpAll K G vs ds → DpAll K G ws es → DpAll K G (vs ++ ws) (ds ++ es)
  | _, _, _, _, .nil, h => h
  | _, _, _, _, .cons h1 h2, h => .cons h1 (DpAll.append h2 h)
theorem DpAll.one {K : PySem.W.Frag} {G : Hp} {v : V} {d : PyData} (h : Dp K G v d) : DpAll K G [v] [d] := .cons h .nil
def dI (ns : List Int) : PyData := .list (ns.map .int)
theorem dpAll_ints {K : PySem.W.Frag} {G : Hp} : ∀ ns : List Int, DpAll K G (ns.map V.int) (ns.map PyData.int)
  | [] => .nil
  | n :: ns => .cons (.int n) (dpAll_ints ns)
theorem ints_dpAll {K : PySem.W.Frag} {G : Hp} : ∀ {ns : List Int} {vs : List V}, DpAll K G vs (ns.map PyData.int) → vs = ns.map V.int
  | [], _, h => by cases h; rfl
  | n :: ns, _, h => by
    cases h with
    | cons h1 h2 =>
      cases h1
      rw [ints_dpAll h2]; rfl
theorem dp_ints {K : PySem.W.Frag} {G : Hp} {v : V} {ns : List Int} (h : Dp K G v (dI ns)) : ∃ a, v = .ref a ∧ SqL K G a (ns.map V.int) := by
  unfold dI at h
  cases h with
  | lst hs ha =>
    rw [ints_dpAll ha] at hs
    exact ⟨_, rfl, hs⟩
theorem ints_dp {K : PySem.W.Frag} {G : Hp} {a : Addr} {ns : List Int} (h : SqL K G a (ns.map V.int)) : Dp K G (.ref a) (dI ns) := .lst h (dpAll_ints ns)
theorem map_get {α β : Type} {f : α → β} {l : List α} {i : Nat} {d : β} (h : (l.map f)[i]? = some d) : ∃ x, l[i]? = some x ∧ d = f x := by
  rw [List.getElem?_map] at h
  cases e : l[i]? with
  | none => rw [e] at h; cases h
  | some x => rw [e] at h; exact ⟨x, rfl, (Option.some.inj h).symm⟩
theorem dpAll_bools {K : PySem.W.Frag} {G : Hp} : ∀ {bs : List Bool} {vs : List V}, DpAll K G vs (bs.map PyData.bool) → vs = bs.map V.bl
  | [], _, h => by cases h; rfl
  | n :: ns, _, h => by
    cases h with
    | cons h1 h2 =>
      cases h1
      rw [dpAll_bools h2]; rfl
theorem dp_list {K : PySem.W.Frag} {G : Hp} {v : V} {ds : List PyData} (h : Dp K G v (.list ds)) : ∃ a xs, v = .ref a ∧ SqL K G a xs ∧ DpAll K G xs ds := by
  cases h with
  | lst hs ha => exact ⟨_, _, rfl, hs, ha⟩
theorem dp_tuple {K : PySem.W.Frag} {G : Hp} {v : V} {ds : List PyData} (h : Dp K G v (.tuple ds)) : ∃ a xs, v = .ref a ∧ SqT K G a xs ∧ DpAll K G xs ds := by
  cases h with
  | tup hs ha => exact ⟨_, _, rfl, hs, ha⟩
theorem dp_int {K : PySem.W.Frag} {G : Hp} {v : V} {n : Int} (h : Dp K G v (.int n)) : v = .int n := by cases h; rfl
theorem dp_bool {K : PySem.W.Frag} {G : Hp} {v : V} {b : Bool} (h : Dp K G v (.bool b)) : v = .bl b := by cases h; rfl
/-- a triple of numbers -/
def d3 (t : Int × Int × Int) : PyData := .tuple [.int t.1, .int t.2.1, .int t.2.2]
def dT (ts : List (Int × Int × Int)) : PyData := .list (ts.map d3)
theorem dp_d3 {K : PySem.W.Frag} {G : Hp} {v : V} {t : Int × Int × Int} (h : Dp K G v (d3 t)) : ∃ a, v = .ref a ∧ SqT K G a [.int t.1, .int t.2.1, .int t.2.2] := by
  obtain ⟨a, xs, rfl, hq, ha⟩ := dp_tuple h
  cases ha with
  | cons h1 ha =>
    cases ha with
    | cons h2 ha =>
      cases ha with
      | cons h3 ha =>
        cases ha
        rw [dp_int h1, dp_int h2, dp_int h3] at hq
        exact ⟨_, rfl, hq⟩
theorem dp_pair {K : PySem.W.Frag} {G : Hp} {v : V} {d e : PyData} (h : Dp K G v (.tuple [d, e])) : ∃ a x y, v = .ref a ∧ SqT K G a [x, y] ∧ Dp K G x d ∧ Dp K G y e := by
  obtain ⟨a, xs, rfl, hq, ha⟩ := dp_tuple h
  cases ha with
  | cons h1 ha =>
    cases ha with
    | cons h2 ha =>
      cases ha
      exact ⟨_, _, _, rfl, hq, h1, h2⟩
theorem dp_pairI {K : PySem.W.Frag} {G : Hp} {v : V} {i j : Int} (h : Dp K G v (.tuple [.int i, .int j])) : ∃ a, v = .ref a ∧ SqT K G a [.int i, .int j] := by
  obtain ⟨a, x, y, rfl, hq, h1, h2⟩ := dp_pair h
  rw [dp_int h1, dp_int h2] at hq
  exact ⟨_, rfl, hq⟩
/-! ### the state: G0, H0 at the entry; what is known; what is owned -/
structure S (K : PySem.W.Frag) (G0 H0 : Hp) (Γ : List (V × PyData)) (Λ : List (Addr × HO)) (G H : Hp) : Prop where
  gr : Gr G0 H0 G H
  st : ∀ p ∈ Γ, Dp K G p.1 p.2
  ow : ∀ q ∈ Λ, H0 q.1 = none ∧ G q.1 = none ∧ H q.1 = some q.2
  nd : (Λ.map (·.1)).Nodup
section
variable {K : PySem.W.Frag} {G0 H0 G H G' H' : Hp} {Γ Γ' : List (V × PyData)} {Λ Λ' : List (Addr × HO)}
theorem S.start (e : Same G H) (h : ∀ p ∈ Γ, Dp K G p.1 p.2) : S K G H Γ [] G H := ⟨Gr.refl e, h, fun _ h => (nomatch h), List.nodup_nil⟩
theorem S.same (s : S K G0 H0 Γ Λ G H) : Same G H := s.gr.s
theorem S.grow (s : S K G0 H0 Γ Λ G H) (g : Gr G H G' H') : S K G0 H0 Γ Λ G' H' :=
  ⟨s.gr.trans g, fun p hp => Dp.mono g.g _ _ (s.st p hp), fun q hq => let ⟨a, b, c⟩ := s.ow q hq; ⟨a, g.n _ (some_ne c) b, g.h _ _ c⟩, s.nd⟩
theorem S.g (s : S K G0 H0 Γ Λ G H) (i : Nat) {v : V} {d : PyData} (h : Γ[i]? = some (v, d)) : Dp K G v d := s.st (v, d) (List.mem_of_getElem? h)
theorem S.o (s : S K G0 H0 Γ Λ G H) (i : Nat) {l : Addr} {o : HO} (h : Λ[i]? = some (l, o)) : H l = some o := (s.ow (l, o) (List.mem_of_getElem? h)).2.2
theorem S.og (s : S K G0 H0 Γ Λ G H) (i : Nat) {l : Addr} {o : HO} (h : Λ[i]? = some (l, o)) : G l = none := (s.ow (l, o) (List.mem_of_getElem? h)).2.1
theorem S.oh (s : S K G0 H0 Γ Λ G H) (i : Nat) {l : Addr} {o : HO} (h : Λ[i]? = some (l, o)) : H0 l = none := (s.ow (l, o) (List.mem_of_getElem? h)).1
theorem S.h (s : S K G0 H0 Γ Λ G H) (i : Nat) {v : V} {d : PyData} (h : Γ[i]? = some (v, d)) : Dp K H v d := Dp.mono s.gr.s _ _ (s.g i h)
theorem S.add (s : S K G0 H0 Γ Λ G H) {v : V} {d : PyData} (h : Dp K G v d) : S K G0 H0 ((v, d) :: Γ) Λ G H :=
  ⟨s.gr, fun p hp => by
    rcases List.mem_cons.mp hp with e | hp
    · subst e; exact h
    · exact s.st p hp, s.ow, s.nd⟩
theorem S.less (s : S K G0 H0 Γ Λ G H) (h : ∀ p ∈ Γ', p ∈ Γ) : S K G0 H0 Γ' Λ G H := ⟨s.gr, fun p hp => s.st p (h p hp), s.ow, s.nd⟩
theorem S.tail {q : V × PyData} (s : S K G0 H0 (q :: Γ) Λ G H) : S K G0 H0 Γ Λ G H := s.less fun p hp => List.mem_cons_of_mem _ hp
theorem S.sel (s : S K G0 H0 Γ Λ G H) (is : List Nat) : S K G0 H0 (is.filterMap fun i => Γ[i]?) Λ G H := s.less fun p hp => by
  obtain ⟨i, _, e⟩ := List.mem_filterMap.mp hp
  exact List.mem_of_getElem? e
/-- a new object, owned -/
theorem S.new (s : S K G0 H0 Γ Λ G H) {p : Addr} {o : HO} (h : H p = none) : S K G0 H0 Γ ((p, o) :: Λ) G (upd H p o) := by
  have s1 := s.grow (Gr.out (o := o) s.gr.s h)
  refine ⟨s1.gr, s1.st, fun q hq => ?_, ?_⟩
  · rcases List.mem_cons.mp hq with e | hq
    · subst e; exact ⟨s.gr.h.free h, s.gr.s.free h, upd_same⟩
    · exact s1.ow q hq
  · rw [List.map_cons, List.nodup_cons]
    refine ⟨fun hm => ?_, s.nd⟩
    obtain ⟨q, hq, e⟩ := List.mem_map.mp hm
    have z := (s.ow q hq).2.2
    rw [e] at z
    rw [h] at z
    cases z
/-- a new tuple, known -/
theorem S.tup (s : S K G0 H0 Γ Λ G H) {p : Addr} {xs : List V} {ds : List PyData} (h : H p = none) (hd : DpAll K G xs ds) : S K G0 H0 ((.ref p, .tuple ds) :: Γ) Λ (upd G p (.tup xs)) (upd H p (.tup xs)) := by
  have g := Gr.new (o := HO.tup xs) s.gr.s h
  exact (s.grow g).add (.tup (.inl (.inl upd_same)) (Dp.monoAll g.g _ _ hd))
/-- a new list, known at once -/
theorem S.lst (s : S K G0 H0 Γ Λ G H) {p : Addr} {xs : List V} {ds : List PyData} (h : H p = none) (hd : DpAll K G xs ds) : S K G0 H0 ((.ref p, .list ds) :: Γ) Λ (upd G p (.lst xs)) (upd H p (.lst xs)) := by
  have g := Gr.new (o := HO.lst xs) s.gr.s h
  exact (s.grow g).add (.lst (.inl (.inl upd_same)) (Dp.monoAll g.g _ _ hd))
/-- what is owned may change -/
theorem S.put (s : S K G0 H0 Γ Λ G H) (i : Nat) {l : Addr} {o : HO} (h : Λ[i]? = some (l, o)) (o' : HO) : S K G0 H0 Γ (Λ.set i (l, o')) G (upd H l o') := by
  have h0 := s.oh i h
  have hg := s.og i h
  obtain ⟨hi, hv⟩ := List.getElem?_eq_some_iff.mp h
  refine ⟨⟨s.gr.g, fun b x e => ?_, fun b x e => ?_, s.gr.n⟩, s.st, fun q hq => ?_, ?_⟩
  · rw [upd_ne (fun z => by rw [z, h0] at e; cases e)]; exact s.gr.h _ _ e
  · rw [upd_ne (fun z => by rw [z, hg] at e; cases e)]; exact s.gr.s _ _ e
  · obtain ⟨j, hj, e⟩ := List.getElem_of_mem hq
    rw [List.length_set] at hj
    rw [List.getElem_set] at e
    by_cases z : i = j
    · rw [if_pos z] at e
      subst e
      exact ⟨h0, hg, upd_same⟩
    · rw [if_neg z] at e
      have hm : q ∈ Λ := by rw [← e]; exact List.getElem_mem hj
      obtain ⟨a, b, c⟩ := s.ow q hm
      refine ⟨a, b, ?_⟩
      rw [upd_ne]
      · exact c
      · intro zz
        apply z
        have n1 : (Λ.map (·.1))[i]? = some l := by rw [List.getElem?_map, h]; rfl
        have n2 : (Λ.map (·.1))[j]? = some l := by rw [List.getElem?_map, List.getElem?_eq_getElem hj, e, ← zz]; rfl
        obtain ⟨b1, e1⟩ := List.getElem?_eq_some_iff.mp n1
        obtain ⟨b2, e2⟩ := List.getElem?_eq_some_iff.mp n2
        exact (List.getElem_inj s.nd).mp (e1.trans e2.symm)
  · have e : (Λ.set i (l, o')).map (·.1) = Λ.map (·.1) := by
      rw [List.map_set]
      refine List.ext_getElem? fun j => ?_
      rw [List.getElem?_set]
      by_cases z : i = j
      · subst z
        rw [if_pos rfl, if_pos (by rw [List.length_map]; exact hi), List.getElem?_map, h]; rfl
      · rw [if_neg z]
    rw [e]
    exact s.nd
/-- an owned list is owned no more -/
theorem S.give {l : Addr} {xs : List V} {ds : List PyData} (s : S K G0 H0 Γ ((l, .lst xs) :: Λ) G H) (hd : DpAll K G xs ds) : S K G0 H0 ((.ref l, .list ds) :: Γ) Λ (upd G l (.lst xs)) H := by
  obtain ⟨h0, hg, hh⟩ := s.ow _ List.mem_cons_self
  have gg : Same G (upd G l (.lst xs)) := same_new hg
  have nd := s.nd
  rw [List.map_cons, List.nodup_cons] at nd
  refine S.add ⟨⟨s.gr.g.trans gg, s.gr.h, fun b x e => ?_, fun a ha ha0 => ?_⟩, fun p hp => Dp.mono gg _ _ (s.st p hp), fun q hq => ?_, nd.2⟩ (.lst (.inl (.inl upd_same)) (Dp.monoAll gg _ _ hd))
  · by_cases z : b = l
    · subst z; rw [upd_same] at e; rw [← e]; exact hh
    · rw [upd_ne z] at e; exact s.gr.s _ _ e
  · have z : a ≠ l := fun z => ha (by rw [z]; exact h0)
    rw [upd_ne z]; exact s.gr.n _ ha ha0
  · obtain ⟨a, b, c⟩ := s.ow q (List.mem_cons_of_mem _ hq)
    refine ⟨a, ?_, c⟩
    rw [upd_ne]
    · exact b
    · intro z
      exact nd.1 (List.mem_map.mpr ⟨q, hq, z⟩)
/-- what is owned is forgotten -/
theorem S.drop {q : Addr × HO} (s : S K G0 H0 Γ (q :: Λ) G H) : S K G0 H0 Γ Λ G H := by
  have nd := s.nd
  rw [List.map_cons, List.nodup_cons] at nd
  exact ⟨s.gr, s.st, fun p hp => s.ow p (List.mem_cons_of_mem _ hp), nd.2⟩
theorem S.only (s : S K G0 H0 Γ Λ G H) : S K G0 H0 Γ [] G H := ⟨s.gr, s.st, fun _ h => (nomatch h), List.nodup_nil⟩
/-- owned ones in another order -/
theorem S.swap {p q : Addr × HO} (s : S K G0 H0 Γ (p :: q :: Λ) G H) : S K G0 H0 Γ (q :: p :: Λ) G H := by
  have nd := s.nd
  refine ⟨s.gr, s.st, fun x hx => s.ow x ?_, ?_⟩
  · simp only [List.mem_cons] at hx ⊢
    rcases hx with h | h | h
    · exact .inr (.inl h)
    · exact .inl h
    · exact .inr (.inr h)
  · simp only [List.map_cons, List.nodup_cons, List.mem_cons, not_or] at nd ⊢
    exact ⟨⟨fun h => nd.1.1 h.symm, nd.2.1⟩, nd.1.2, nd.2.2⟩
end
/-! ### what a def hands back -/
/-- some value of that data -/
def Rt (K : PySem.W.Frag) (G H : Hp) (d : PyData) (Q : VK) : Prop := ∀ v G' H', Gr G H G' H' → Dp K G' v d → Q v H'
/-- the value v itself -/
def RtV (G H : Hp) (v : V) (Q : VK) : Prop := ∀ G' H', Gr G H G' H' → Q v H'
/-- a new list of that data -/
def RtL (K : PySem.W.Frag) (G H : Hp) (ds : List PyData) (Q : VK) : Prop := ∀ l xs G' H', Gr G H G' H' → H l = none → G' l = none → H' l = some (.lst xs) → DpAll K G' xs ds → Q (.ref l) H'
section
variable {K : PySem.W.Frag} {G0 H0 G H G' H' : Hp} {Γ Γ' : List (V × PyData)} {Λ Λ' : List (Addr × HO)}
/-- behind a call that gives a new list: owned -/
theorem S.got (s : S K G0 H0 Γ Λ G H) {l : Addr} {xs : List V} (g : Gr G H G' H') (h0 : H l = none) (hg : G' l = none) (hh : H' l = some (.lst xs)) : S K G0 H0 Γ ((l, .lst xs) :: Λ) G' H' := by
  have s1 := s.grow g
  refine ⟨s1.gr, s1.st, fun q hq => ?_, ?_⟩
  · rcases List.mem_cons.mp hq with e | hq
    · subst e; exact ⟨s.gr.h.free h0, hg, hh⟩
    · exact s1.ow q hq
  · rw [List.map_cons, List.nodup_cons]
    refine ⟨fun hm => ?_, s.nd⟩
    obtain ⟨q, hq, e⟩ := List.mem_map.mp hm
    have z := (s.ow q hq).2.2
    rw [e, h0] at z
    cases z
theorem RtL.out {ds : List PyData} {Q : VK} (q : RtL K G0 H0 ds Q) {l : Addr} {xs : List V} (s : S K G0 H0 Γ ((l, .lst xs) :: Λ) G H) (hd : DpAll K G xs ds) : Q (.ref l) H :=
  q l xs G H s.gr (s.oh 0 rfl) (s.og 0 rfl) (s.o 0 rfl) hd
theorem Rt.out {d : PyData} {Q : VK} (q : Rt K G0 H0 d Q) {v : V} (s : S K G0 H0 Γ Λ G H) (hd : Dp K G v d) : Q v H := q v G H s.gr hd
theorem RtV.out {v : V} {Q : VK} (q : RtV G0 H0 v Q) (s : S K G0 H0 Γ Λ G H) : Q v H := q G H s.gr
end
/-! ### what is walked -/
structure Wk (K : PySem.W.Frag) (J : It) (n : Nat) (G0 : Hp) (Y : Nat → PyData → Prop) : Prop where
  goes : ∀ i G H, i < n → Same G0 G → Same G H → J.go i H
  stops : ∀ G H, Same G0 G → Same G H → J.stop n H
  yields : ∀ i G H x H', i < n → Same G0 G → Same G H → J.yld i H x H' → ∃ G' d, Gr G H G' H' ∧ Y i d ∧ Dp K G' x d
section
variable {K : PySem.W.Frag} {G : Hp} {ds es : List PyData}
theorem at_get {xs : List V} {i : Nat} (h : i < xs.length) : xs[i]? = some xs[i] := List.getElem?_eq_getElem h
theorem wk_list {a : Addr} {xs : List V} (hq : SqL K G a xs) (ha : DpAll K G xs ds) : Wk K (Itl K a) ds.length G (fun i d => ds[i]? = some d) := by
  have hl := DpAll.len ha
  refine ⟨fun i G1 H1 hi e1 e2 => ⟨xs, xs[i], e2.seq (e1.seq hq), at_get (by omega)⟩, fun G1 H1 e1 e2 => ⟨xs, e2.seq (e1.seq hq), by omega⟩, fun i G1 H1 x H' hi e1 e2 y => ?_⟩
  obtain ⟨rfl, y⟩ := y
  have hx := y xs (e2.seq (e1.seq hq))
  obtain ⟨u, hu, du⟩ := DpAll.get ha (List.getElem?_eq_getElem hi)
  rw [hu] at hx
  cases hx
  exact ⟨G1, ds[i], Gr.refl e2, List.getElem?_eq_getElem hi, Dp.mono e1 _ _ du⟩
theorem wk_tup {a : Addr} {xs : List V} (hq : SqT K G a xs) (ha : DpAll K G xs ds) : Wk K (Itt K a) ds.length G (fun i d => ds[i]? = some d) := by
  have hl := DpAll.len ha
  refine ⟨fun i G1 H1 hi e1 e2 => ⟨xs, xs[i], Same.tup e2 (Same.tup e1 hq), at_get (by omega)⟩, fun G1 H1 e1 e2 => ⟨xs, Same.tup e2 (Same.tup e1 hq), by omega⟩, fun i G1 H1 x H' hi e1 e2 y => ?_⟩
  obtain ⟨rfl, y⟩ := y
  have hx := y xs (Same.tup e2 (Same.tup e1 hq))
  obtain ⟨u, hu, du⟩ := DpAll.get ha (List.getElem?_eq_getElem hi)
  rw [hu] at hx
  cases hx
  exact ⟨G1, ds[i], Gr.refl e2, List.getElem?_eq_getElem hi, Dp.mono e1 _ _ du⟩
theorem wk_rng {lo : Int} {n : Nat} : Wk K (Itr lo n) n G (fun i d => d = .int (lo + i)) :=
  ⟨fun i _ _ hi _ _ => hi, fun _ _ _ _ => Nat.le_refl _, fun i G1 H1 x H' hi e1 e2 y => by
    obtain ⟨rfl, rfl⟩ := y
    exact ⟨G1, _, Gr.refl e2, rfl, .int _⟩⟩
theorem wk_zip {a b : Addr} {xs ys : List V} (hq : SqL K G a xs) (ha : DpAll K G xs ds) (hq2 : SqL K G b ys) (ha2 : DpAll K G ys es) :
    Wk K (Itz K a b) (min ds.length es.length) G (fun i d => ∃ x y, ds[i]? = some x ∧ es[i]? = some y ∧ d = .tuple [x, y]) := by
  have hl := DpAll.len ha
  have hl2 := DpAll.len ha2
  refine ⟨fun i G1 H1 hi e1 e2 => ⟨xs, ys, xs[i], ys[i], e2.seq (e1.seq hq), e2.seq (e1.seq hq2), at_get (by omega), at_get (by omega)⟩, fun G1 H1 e1 e2 => ⟨xs, ys, e2.seq (e1.seq hq), e2.seq (e1.seq hq2), by omega⟩, fun i G1 H1 x H' hi e1 e2 y => ?_⟩
  obtain ⟨T, x1, x2, rfl, nT, rfl, f1, f2⟩ := y
  have g1 := f1 _ (e2.seq (e1.seq hq))
  have g2 := f2 _ (e2.seq (e1.seq hq2))
  have i1 : i < ds.length := by omega
  have i2 : i < es.length := by omega
  obtain ⟨u, hu, du⟩ := DpAll.get ha (List.getElem?_eq_getElem i1)
  obtain ⟨u2, hu2, du2⟩ := DpAll.get ha2 (List.getElem?_eq_getElem i2)
  rw [hu] at g1
  rw [hu2] at g2
  cases g1
  cases g2
  have g := Gr.new (o := HO.tup [x1, x2]) e2 nT
  exact ⟨_, .tuple [ds[i], es[i]], g, ⟨_, _, List.getElem?_eq_getElem i1, List.getElem?_eq_getElem i2, rfl⟩, .tup (.inl (.inl upd_same)) (.cons (Dp.mono (e1.trans g.g) _ _ du) (.cons (Dp.mono (e1.trans g.g) _ _ du2) .nil))⟩
theorem wk_enum {a : Addr} {xs : List V} (hq : SqL K G a xs) (ha : DpAll K G xs ds) : Wk K (Ite K a) ds.length G (fun i d => ∃ x, ds[i]? = some x ∧ d = .tuple [.int i, x]) := by
  have hl := DpAll.len ha
  refine ⟨fun i G1 H1 hi e1 e2 => ⟨xs, xs[i], e2.seq (e1.seq hq), at_get (by omega)⟩, fun G1 H1 e1 e2 => ⟨xs, e2.seq (e1.seq hq), by omega⟩, fun i G1 H1 x H' hi e1 e2 y => ?_⟩
  obtain ⟨T, x1, rfl, nT, rfl, f1⟩ := y
  have g1 := f1 _ (e2.seq (e1.seq hq))
  obtain ⟨u, hu, du⟩ := DpAll.get ha (List.getElem?_eq_getElem hi)
  rw [hu] at g1
  cases g1
  have g := Gr.new (o := HO.tup [V.int i, x1]) e2 nT
  exact ⟨_, .tuple [.int i, ds[i]], g, ⟨_, List.getElem?_eq_getElem hi, rfl⟩, .tup (.inl (.inl upd_same)) (.cons (.int _) (.cons (Dp.mono (e1.trans g.g) _ _ du) .nil))⟩
end
/-- a for -/
theorem for_wk {K : PySem.W.Frag} {J : It} {n : Nat} {Gw : Hp} {Y : Nat → PyData → Prop} (w : Wk K J n Gw Y) {g : TG} {tb : TS} {D : Ends} {σ : St} {H : Hp} (Pv : Nat → St → Hp → Hp → Prop)
    (h0 : ∃ G, Pv 0 σ G H) (hG : ∀ i σ G H, Pv i σ G H → Same Gw G ∧ Same G H)
    (hs : ∀ i d x σ G H G1 H1, i < n → Pv i σ G H → Gr G H G1 H1 → Y i d → Dp K G1 x d →
      g x σ H1 fun σ2 H2 => tb { D with nx := fun σ H => ∃ G, Pv (i + 1) σ G H, ct := fun σ H => ∃ G, Pv (i + 1) σ G H, bk := D.nx } σ2 H2) (hd : ∀ σ G H, Pv n σ G H → D.nx σ H) :
    ∃ W : Nat → Nat → St → Hp → Prop, (∃ m, W 0 m σ H) ∧ ∀ i m σ H, W i m σ H →
      (J.stop i H ∧ D.nx σ H) ∨ (J.go i H ∧ ∃ N : St → Hp → Prop, (∀ σ' H', N σ' H' → ∃ m', m' < m ∧ W (i + 1) m' σ' H') ∧ ∀ x H', J.yld i H x H' → g x σ H' fun σ2 H2 => tb { D with nx := N, ct := N, bk := D.nx } σ2 H2) := by
  refine ⟨fun i m σ H => m = n - i ∧ i ≤ n ∧ ∃ G, Pv i σ G H, ⟨n, by simp, Nat.zero_le _, h0⟩, ?_⟩
  rintro i m σ H ⟨rfl, hi, G, p⟩
  obtain ⟨e1, e2⟩ := hG i σ G H p
  by_cases hlt : i < n
  · refine .inr ⟨w.goes i G H hlt e1 e2, fun σ H => ∃ G, Pv (i + 1) σ G H, fun σ' H' p' => ⟨n - (i + 1), by omega, rfl, hlt, p'⟩, fun x H' y => ?_⟩
    obtain ⟨G1, d, g1, hy, hx⟩ := w.yields i G H x H' hlt e1 e2 y
    exact hs i d x σ G H G1 H' hlt p g1 hy hx
  · have e : i = n := by omega
    subst e
    exact .inl ⟨w.stops G H e1 e2, hd σ G H p⟩
/-- a comprehension without tests -/
theorem lc_wk {K : PySem.W.Frag} {J : It} {n : Nat} {Gw : Hp} {Y : Nat → PyData → Prop} (w : Wk K J n Gw Y) {g : TG} {te : TE} {vs : List Nat} {σ : St} {G0 H0 G H : Hp} {Γ : List (V × PyData)} {Λ : List (Addr × HO)} {D : Addr} {Qd : Hp → Prop}
    (s : S K G0 H0 Γ Λ G H) (hD : H D = none) (hw : Same Gw G) (hn : n < sizeLine) (out : List PyData) (hl : out.length = n)
    (he : ∀ i d x G1 H1, i < n → Y i d → S K G0 H0 Γ Λ G1 H1 → Dp K G1 x d → ∀ R : V → Hp → Prop, (∀ y G3 H3 e, Gr G1 H1 G3 H3 → out[i]? = some e → Dp K G3 y e → R y H3) → g x (wipe σ vs) H1 fun σ2 H2 => wipe σ2 vs = wipe σ vs ∧ te σ2 H2 R)
    (hq : ∀ xs G1 H1, S K G0 H0 Γ ((D, .lst xs) :: Λ) G1 H1 → DpAll K G1 xs out → Qd H1) :
    ∃ W : Nat → Nat → Hp → Prop, (∃ m, W 0 m (upd H D (.lst []))) ∧ ∀ i m H, W i m H →
      (J.stop i H ∧ Qd H) ∨ (J.go i H ∧ ∃ Nx : Hp → Prop, (∀ H', Nx H' → ∃ m', m' < m ∧ W (i + 1) m' H') ∧ ∀ x H', J.yld i H x H' → g x (wipe σ vs) H' fun σ2 H2 => wipe σ2 vs = wipe σ vs ∧ tYes σ2 H2 fun b H3 =>
        if b = true then te σ2 H3 fun y H4 => ∃ acc, H4 D = some (.lst acc) ∧ acc.length < sizeLine ∧ Nx (upd H4 D (.lst (acc ++ [y]))) else Nx H3) := by
  refine ⟨fun i m H => m = n - i ∧ i ≤ n ∧ ∃ G acc, S K G0 H0 Γ ((D, .lst acc) :: Λ) G H ∧ Same Gw G ∧ DpAll K G acc (out.take i), ⟨n, by simp, Nat.zero_le _, G, [], s.new hD, hw, by rw [List.take_zero]; exact .nil⟩, ?_⟩
  rintro i m H ⟨rfl, hi, G, acc, s, e1, hacc⟩
  by_cases hlt : i < n
  · refine .inr ⟨w.goes i G H hlt e1 s.same, fun H => ∃ G acc, S K G0 H0 Γ ((D, .lst acc) :: Λ) G H ∧ Same Gw G ∧ DpAll K G acc (out.take (i + 1)), fun H' p' => ⟨n - (i + 1), by omega, rfl, hlt, p'⟩, fun x H' y => ?_⟩
    obtain ⟨G1, d, g1, hy, hx⟩ := w.yields i G H x H' hlt e1 s.same y
    have s1 := s.grow g1
    refine he i d x G1 H' hlt hy s1.drop hx _ fun y G3 H3 e g3 ho hy3 => ?_
    have s3 := s1.grow g3
    have ha : acc.length < sizeLine := by
      have := DpAll.len hacc
      rw [List.length_take] at this
      omega
    refine ⟨acc, s3.o 0 rfl, ha, G3, acc ++ [y], s3.put 0 rfl _, (e1.trans g1.g).trans g3.g, ?_⟩
    rw [List.take_add_one, ho]
    exact DpAll.append (Dp.monoAll (g1.g.trans g3.g) _ _ hacc) (DpAll.one hy3)
  · have e : i = n := by omega
    subst e
    refine .inl ⟨w.stops G H e1 s.same, hq acc G H s ?_⟩
    rw [List.take_of_length_le (by omega)] at hacc
    exact hacc

/-! ### an owned list handed to a call -/
def del (G : Hp) (l : Addr) : Hp := fun b => if b = l then none else G b
theorem del_ne {G : Hp} {l b : Addr} (h : b ≠ l) : del G l b = G b := if_neg h
theorem del_same {G : Hp} {l : Addr} : del G l l = none := if_pos rfl
theorem Gr.back {G H G2 H2 : Hp} {l : Addr} {o : HO} (hg : G l = none) (g : Gr (upd G l o) H G2 H2) : Gr G H (del G2 l) H2 := by
  refine ⟨fun b x e => ?_, g.h, fun b x e => ?_, fun a ha h0 => ?_⟩
  · have z : b ≠ l := fun z => by rw [z, hg] at e; cases e
    rw [del_ne z]
    exact g.g b x (by rw [upd_ne z]; exact e)
  · by_cases z : b = l
    · subst z; rw [del_same] at e; cases e
    · rw [del_ne z] at e; exact g.s b x e
  · by_cases z : a = l
    · subst z; exact del_same
    · rw [del_ne z]
      exact g.n a ha (by rw [upd_ne z]; exact h0)
theorem DpAll.take {K : PySem.W.Frag} {G : Hp} : ∀ {vs : List V} {ds : List PyData} (k : Nat), DpAll K G vs ds → DpAll K G (vs.take k) (ds.take k)
  | _, _, 0, _ => by rw [List.take_zero, List.take_zero]; exact .nil
  | _, _, k + 1, .nil => .nil
  | _, _, k + 1, .cons h1 h2 => .cons h1 (DpAll.take k h2)
theorem DpAll.drop {K : PySem.W.Frag} {G : Hp} : ∀ {vs : List V} {ds : List PyData} (k : Nat), DpAll K G vs ds → DpAll K G (vs.drop k) (ds.drop k)
  | _, _, 0, h => h
  | _, _, k + 1, .nil => .nil
  | _, _, k + 1, .cons h1 h2 => DpAll.drop k h2
/-! ### slices -/
theorem cut_hi (xs : List V) (k : Nat) : cutV xs none (some (k : Int)) = xs.take k := by
  unfold cutV
  rw [HT.sIx_none, HT.sIx_nat, List.drop_zero, Nat.sub_zero]
  by_cases h : k ≤ xs.length
  · rw [Nat.min_eq_left h]
  · rw [Nat.min_eq_right (by omega), List.take_of_length_le (Nat.le_refl _), List.take_of_length_le (by omega)]
theorem cut_lo (xs : List V) (k : Nat) : cutV xs (some (k : Int)) none = xs.drop k := by
  unfold cutV
  rw [HT.sIx_none, HT.sIx_nat]
  by_cases h : k ≤ xs.length
  · rw [Nat.min_eq_left h, List.take_of_length_le (by rw [List.length_drop]; omega)]
  · rw [Nat.min_eq_right (by omega), List.drop_of_length_le (Nat.le_refl _), List.drop_of_length_le (by omega), List.take_nil]
end Dr
namespace Dr
open PySem PySem.Spec PyProof.Rows L2
section
variable {X : Cx} {a b c d : Expr} {ta tb tc td : TE} {pos : Pos}
/-- a op1 b op2 c op3 d -/
def tChain3 (r r' r'' : R2) (ta tb tc td : TE) : TE := fun σ H Q => ta σ H fun x H1 => tb σ H1 fun y H2 => r x y H2 fun z H3 => ∃ k, z = .bl k ∧
  (if k = true then tc σ H3 fun w' H4 => r' y w' H4 fun z' H5 => ∃ k', z' = .bl k' ∧ (if k' = true then td σ H5 fun q H6 => r'' w' q H6 Q else Q (.bl false) H5) else Q (.bl false) H3)
theorem pe_chain3 {op op' op'' : CmpOp} {r r' r'' : R2} (ho : OpR X (compareOp op) r) (ho' : OpR X (compareOp op') r') (ho'' : OpR X (compareOp op'') r'') (ha : PE X a ta) (hb : PE X b tb) (hc : PE X c tc) (hd : PE X d td)
    (hm : lastMarks [op, op', op''] [b, c, d] = false := by with_unfolding_all rfl) : PE X (.Compare a [op, op', op''] [b, c, d] pos) (tChain3 r r' r'' ta tb tc td) := by
  refine ⟨fun pins s σ H Q I h => ?_⟩
  refine Compare_chain (thn (ha.run pins s σ H _ I h) fun v s1 ⟨x, H1, I1, r1, q1⟩ => chain_link (thn (hb.run pins s1 σ H1 _ I1 q1) fun u s2 ⟨y, H2, I2, r2, q2⟩ =>
    thn (ho pins s2 σ H2 x y v u _ I2 r1 r2 q2) fun d s3 ⟨z, H3, I3, r3, k, e, q3⟩ => ?_)) hm
  subst e
  cases r3
  refine wpAny_truthy_bool ?_
  cases k with
  | false => exact ite_ff ⟨.bl false, H3, I3, rfl, q3⟩
  | true =>
    refine ite_tt (chain_link (thn (hc.run pins s3 σ H3 _ I3 q3) fun w' s4 ⟨z', H4, I4, r4, q4⟩ => thn (ho' pins s4 σ H4 y z' u w' _ I4 r2 r4 q4) fun d' s5 ⟨z5, H5, I5, r5, k', e', q5⟩ => ?_))
    subst e'
    cases r5
    refine wpAny_truthy_bool ?_
    cases k' with
    | false => exact ite_ff ⟨.bl false, H5, I5, rfl, q5⟩
    | true => exact ite_tt (chain_last (thn (hd.run pins s5 σ H5 _ I5 q5) fun w6 s6 ⟨z6, H6, I6, r6, q6⟩ => ho'' pins s6 σ H6 z' z6 w' w6 Q I6 r4 r6 q6))
theorem pt_chain3 {op op' op'' : CmpOp} {r r' r'' : R2} (ho : OpR X (compareOp op) r) (ho' : OpR X (compareOp op') r') (ho'' : OpR X (compareOp op'') r'') (ha : PE X a ta) (hb : PE X b tb) (hc : PE X c tc) (hd : PE X d td)
    (hm : lastMarks [op, op', op''] [b, c, d] = false := by with_unfolding_all rfl) : PT X (.Compare a [op, op', op''] [b, c, d] pos) (tTest (tChain3 r r' r'' ta tb tc td)) := by
  refine ⟨fun pins s σ H Q I h => ?_⟩
  refine isTrue_chain (thn (ha.run pins s σ H _ I h) fun v s1 ⟨x, H1, I1, r1, q1⟩ => test_link (thn (hb.run pins s1 σ H1 _ I1 q1) fun u s2 ⟨y, H2, I2, r2, q2⟩ =>
    thn (ho pins s2 σ H2 x y v u _ I2 r1 r2 q2) fun d s3 ⟨z, H3, I3, r3, k, e, q3⟩ => ?_)) hm
  subst e
  cases r3
  refine wpAny_truthy_bool ?_
  cases k with
  | false =>
    obtain ⟨k', e', q'⟩ := q3
    cases e'
    exact ite_ff ⟨H3, I3, q'⟩
  | true =>
    refine ite_tt (test_link (thn (hc.run pins s3 σ H3 _ I3 q3) fun w' s4 ⟨z', H4, I4, r4, q4⟩ => thn (ho' pins s4 σ H4 y z' u w' _ I4 r2 r4 q4) fun d' s5 ⟨z5, H5, I5, r5, k', e', q5⟩ => ?_))
    subst e'
    cases r5
    refine wpAny_truthy_bool ?_
    cases k' with
    | false =>
      obtain ⟨k2, e2, q'⟩ := q5
      cases e2
      exact ite_ff ⟨H5, I5, q'⟩
    | true =>
      refine ite_tt (test_last (thn (hd.run pins s5 σ H5 _ I5 q5) fun w6 s6 ⟨z6, H6, I6, r6, q6⟩ => thn (ho'' pins s6 σ H6 z' z6 w' w6 _ I6 r4 r6 q6) fun d7 s7 ⟨z7, H7, I7, r7, k7, e7, q7⟩ => ?_))
      subst e7
      cases r7
      exact wpAny_truthy_bool ⟨H7, I7, q7⟩
/-- * of any two numbers below the line -/
theorem op_mulB : OpR X (binaryOp .Mult) (rI IntMulOk fun i j => .int (i * j)) := opI fun _ _ _ _ _ _ _ hc q => mul_int q hc
end
theorem mulOk_pow {i j : Int} {a b : Nat} (ha : i.natAbs < 2 ^ a) (hb : j.natAbs < 2 ^ b) (h0 : 0 < a) (h1 : 0 < b) (h : a + b ≤ 1000000) : IntMulOk i j := (wide_mul ha hb h0 h1 h).ok
theorem tyx_list {K : PySem.W.Frag} {H : Hp} {a : Addr} {xs : List V} (h : SqL K H a xs) : TyX K H (.ref a) (.type "list") := by
  rcases h with (h | ⟨o, h⟩) | h
  · exact .base (.lst h)
  · exact .base (.frz h)
  · obtain ⟨o, _, _, e, c, _⟩ := h
    exact .kList e c
theorem tyx_tup {K : PySem.W.Frag} {H : Hp} {a : Addr} {xs : List V} (h : SqT K H a xs) : TyX K H (.ref a) (.type "tuple") := by
  rcases h with (h | ⟨o, h⟩) | h
  · exact .base (.tup h)
  · exact .fTuple h
  · obtain ⟨o, _, _, e, c, _⟩ := h
    exact .kTuple e c
theorem isi {K : PySem.W.Frag} {H : Hp} {x : V} {t n : String} {b : Bool} {Q : VK} (ty : TyX K H x (.type t)) (h : kitB t n = some b) (q : Q (.bl b) H) : rIsi K [x, .ty n] H Q :=
  ⟨x, .ty n, .type t, .type n, b, rfl, .ty n, ty, kit_ty h, q⟩

/-- len of a list, a tuple -/
def rLen (K : PySem.W.Frag) : List V → Hp → VK → Prop := fun xs H Q => ∃ p ys, xs = [.ref p] ∧ (SqL K H p ys ∨ SqT K H p ys) ∧ Q (.int (ys.length : Nat)) H
theorem call_lenK {X : Cx} : CallR X (.builtin "len") (rLen X.K) := call_len_seq
/-! ### == of data -/
theorem shp_all {n : Nat} : ∀ {ds : List PyData}, (∀ d ∈ ds, PyData.canLay0 d = true ∧ PyData.depth d ≤ n) → PyData.canLayAll0 ds = true ∧ PyData.depthAll ds ≤ n
  | [], _ => ⟨by simp [PyData.canLayAll0], by simp [PyData.depthAll]⟩
  | d :: ds, h => by
    obtain ⟨a, b⟩ := shp_all (ds := ds) fun e he => h e (List.mem_cons_of_mem _ he)
    obtain ⟨c, e⟩ := h d List.mem_cons_self
    exact ⟨by simp [PyData.canLayAll0, c, a], by simp only [PyData.depthAll]; omega⟩
theorem shp_list {n : Nat} {ds : List PyData} (h : ∀ d ∈ ds, PyData.canLay0 d = true ∧ PyData.depth d ≤ n) : PyData.canLay0 (.list ds) = true ∧ PyData.depth (.list ds) ≤ n + 1 := by
  obtain ⟨a, b⟩ := shp_all h
  exact ⟨by simp only [PyData.canLay0]; exact a, by simp only [PyData.depth]; omega⟩
theorem shp_tuple {n : Nat} {ds : List PyData} (h : ∀ d ∈ ds, PyData.canLay0 d = true ∧ PyData.depth d ≤ n) : PyData.canLay0 (.tuple ds) = true ∧ PyData.depth (.tuple ds) ≤ n + 1 := by
  obtain ⟨a, b⟩ := shp_all h
  exact ⟨by simp only [PyData.canLay0]; exact a, by simp only [PyData.depth]; omega⟩
theorem shp_int (i : Int) : PyData.canLay0 (.int i) = true ∧ PyData.depth (.int i) ≤ 0 := ⟨by simp [PyData.canLay0], by simp [PyData.depth]⟩
theorem shp_dI (ns : List Int) : PyData.canLay0 (dI ns) = true ∧ PyData.depth (dI ns) ≤ 1 := shp_list fun d hd => by
  obtain ⟨x, _, rfl⟩ := List.mem_map.mp hd
  exact shp_int x
theorem shp_d3 (t : Int × Int × Int) : PyData.canLay0 (d3 t) = true ∧ PyData.depth (d3 t) ≤ 1 := shp_tuple fun d hd => by
  simp only [List.mem_cons, List.not_mem_nil, or_false] at hd
  rcases hd with rfl | rfl | rfl <;> exact shp_int _
theorem shp_dT (ts : List (Int × Int × Int)) : PyData.canLay0 (dT ts) = true ∧ PyData.depth (dT ts) ≤ 2 := shp_list fun d hd => by
  obtain ⟨x, _, rfl⟩ := List.mem_map.mp hd
  exact shp_d3 x
theorem shp_ok {d : PyData} {n : Nat} (h : PyData.canLay0 d = true ∧ PyData.depth d ≤ n) (hn : n ≤ 64 := by decide) : SeqAt.shaped d = true := by
  unfold SeqAt.shaped
  rw [h.1, decide_eq_true (by omega)]
  rfl
theorem shaped_dI (ns : List Int) : SeqAt.shaped (dI ns) = true := shp_ok (shp_dI ns)
theorem shaped_dT (ts : List (Int × Int × Int)) : SeqAt.shaped (dT ts) = true := shp_ok (shp_dT ts)
theorem eqvAll_dI : ∀ xs ys : List Int, PyData.eqvAll (xs.map .int) (ys.map .int) = decide (xs = ys)
  | [], [] => by simp [PyData.eqvAll]
  | [], _ :: _ => by simp [PyData.eqvAll]
  | _ :: _, [] => by simp [PyData.eqvAll]
  | a :: r, b :: t => by
    simp only [List.map_cons, PyData.eqvAll, PyData.eqv, eqvAll_dI r t]
    by_cases h : a = b <;> by_cases h' : r = t <;> simp [h, h']
theorem eqv_dI (xs ys : List Int) : PyData.eqv (dI xs) (dI ys) = decide (xs = ys) := by
  unfold dI
  simp only [PyData.eqv]
  exact eqvAll_dI xs ys
theorem eqv_d3 (a b : Int × Int × Int) : PyData.eqv (d3 a) (d3 b) = decide (a = b) := by
  obtain ⟨x, y, z⟩ := a
  obtain ⟨x', y', z'⟩ := b
  unfold d3
  simp only [PyData.eqv, PyData.eqvAll]
  by_cases h : x = x' <;> by_cases h' : y = y' <;> by_cases h'' : z = z' <;> simp [h, h', h'']
theorem eqvAll_dT : ∀ xs ys : List (Int × Int × Int), PyData.eqvAll (xs.map d3) (ys.map d3) = decide (xs = ys)
  | [], [] => by simp [PyData.eqvAll]
  | [], _ :: _ => by simp [PyData.eqvAll]
  | _ :: _, [] => by simp [PyData.eqvAll]
  | a :: r, b :: t => by
    simp only [List.map_cons, PyData.eqvAll, eqv_d3, eqvAll_dT r t]
    by_cases h : a = b <;> by_cases h' : r = t <;> simp [h, h']
theorem eqv_dT (xs ys : List (Int × Int × Int)) : PyData.eqv (dT xs) (dT ys) = decide (xs = ys) := by
  unfold dT
  simp only [PyData.eqv]
  exact eqvAll_dT xs ys
theorem eqv_self {d : PyData} {n : Nat} (h : PyData.canLay0 d = true ∧ PyData.depth d ≤ n) : PyData.eqv d d = true := SeqAt.eqv_refl d h.1
end Dr
namespace DM
abbrev Deed := Int × Int × Int
/-! the mirror of rows.py -/
def isDeed (n : Int) (d : Deed) : Bool := (decide (0 ≤ d.1) && (decide (d.1 < d.2.1) && decide (d.2.1 ≤ n))) && !decide (d.2.2 = 0)
def Okd (n : Nat) (d : Deed) : Prop := 0 ≤ d.1 ∧ d.1 < d.2.1 ∧ d.2.1 ≤ n ∧ d.2.2 ≠ 0
theorem isDeed_iff {n : Nat} {d : Deed} : isDeed n d = true ↔ Okd n d := by
  unfold isDeed Okd
  simp only [Bool.and_eq_true, decide_eq_true_eq, Bool.not_eq_true', decide_eq_false_iff_not]
  constructor
  · rintro ⟨⟨a, b, c⟩, e⟩; exact ⟨a, b, c, e⟩
  · rintro ⟨a, b, c, e⟩; exact ⟨⟨a, b, c⟩, e⟩
def bumpD (c : List Int) (d : Deed) : List Int :=
  let c1 := c.set d.1.toNat (c.getD d.1.toNat 0 + d.2.2)
  c1.set d.2.1.toNat (c1.getD d.2.1.toNat 0 - d.2.2)
def changes (n : Nat) (ds : List Deed) : List Int := ds.foldl bumpD (List.replicate (n + 1) 0)
def runBy (size : Int) : Int → List Int → List Int → List Int
  | far, f :: r, c :: cs => (f + (far + c)) % size :: runBy size (far + c) r cs
  | _, _, _ => []
def turnedBy (size : Int) (row : List Int) (ds : List Deed) : List Int := runBy size 0 row (changes row.length ds)
def stepsOf (ds : List Deed) : Int := (ds.map fun d => (if d.2.2 < 0 then -d.2.2 else d.2.2)).sum
/-! what it means -/
def coverAt (ds : List Deed) (j : Int) : Int := (ds.map fun d => if d.1 ≤ j ∧ j < d.2.1 then d.2.2 else 0).sum
def diffAt (ds : List Deed) (p : Int) : Int := (ds.map fun d => (if d.1 = p then d.2.2 else 0) - (if d.2.1 = p then d.2.2 else 0)).sum
theorem getD_set (xs : List Int) (i j : Nat) (v : Int) : (xs.set i v).getD j 0 = if i = j ∧ j < xs.length then v else xs.getD j 0 := by
  simp only [List.getD_eq_getElem?_getD, List.getElem?_set]
  by_cases h : i = j
  · subst h
    by_cases h2 : i < xs.length
    · simp [h2]
    · simp [h2]
  · simp [h]
theorem bumpD_len (c : List Int) (d : Deed) : (bumpD c d).length = c.length := by simp [bumpD]
theorem bumpD_get {c : List Int} {d : Deed} {n : Nat} (hd : Okd n d) (hc : c.length = n + 1) (p : Nat) (hp : p ≤ n) :
    (bumpD c d).getD p 0 = c.getD p 0 + ((if d.1 = p then d.2.2 else 0) - (if d.2.1 = p then d.2.2 else 0)) := by
  obtain ⟨h1, h2, h3, h4⟩ := hd
  unfold bumpD
  simp only [getD_set, List.length_set]
  have e1 : (d.1.toNat = p) ↔ (d.1 = p) := by omega
  have e2 : (d.2.1.toNat = p) ↔ (d.2.1 = p) := by omega
  have e3 : ¬ (d.1.toNat = d.2.1.toNat) := by omega
  have l : p < c.length := by omega
  simp only [e1, e2, l, and_true, e3, false_and, if_false]
  by_cases g1 : d.1 = p <;> by_cases g2 : d.2.1 = p <;> simp only [g1, g2, if_true, if_false]
  · exfalso; omega
  · rw [Int.toNat_natCast]; omega
  · rw [Int.toNat_natCast]; omega
  · omega
theorem changes_len (n : Nat) (ds : List Deed) : ∀ c : List Int, (ds.foldl bumpD c).length = c.length := by
  induction ds with
  | nil => intro c; rfl
  | cons d ds ih => intro c; rw [List.foldl_cons, ih, bumpD_len]
theorem changes_get {n : Nat} (p : Nat) (hp : p ≤ n) : ∀ (ds : List Deed) (c : List Int), (∀ d ∈ ds, Okd n d) → c.length = n + 1 →
    (ds.foldl bumpD c).getD p 0 = c.getD p 0 + diffAt ds p := by
  intro ds
  induction ds with
  | nil => intro c _ _; simp [diffAt]
  | cons d ds ih =>
    intro c hv hc
    rw [List.foldl_cons, ih (bumpD c d) (fun e he => hv e (List.mem_cons_of_mem _ he)) (by rw [bumpD_len, hc]), bumpD_get (hv d List.mem_cons_self) hc p hp]
    simp only [diffAt, List.map_cons, List.sum_cons]
    omega
theorem cover_zero {ds : List Deed} (n : Nat) (hv : ∀ d ∈ ds, Okd n d) : coverAt ds 0 = diffAt ds 0 := by
  induction ds with
  | nil => rfl
  | cons d ds ih =>
    have h := ih fun e he => hv e (List.mem_cons_of_mem _ he)
    obtain ⟨h1, h2, h3, h4⟩ := hv d List.mem_cons_self
    simp only [coverAt, diffAt, List.map_cons, List.sum_cons] at h ⊢
    rw [h]
    by_cases g : d.1 = 0
    · rw [if_pos (by omega), if_pos g, if_neg (by omega)]; omega
    · rw [if_neg (by omega), if_neg g, if_neg (by omega)]; omega
theorem cover_succ {ds : List Deed} (n : Nat) (hv : ∀ d ∈ ds, Okd n d) (j : Int) : coverAt ds (j + 1) = coverAt ds j + diffAt ds (j + 1) := by
  induction ds with
  | nil => rfl
  | cons d ds ih =>
    have h := ih fun e he => hv e (List.mem_cons_of_mem _ he)
    obtain ⟨h1, h2, h3, h4⟩ := hv d List.mem_cons_self
    simp only [coverAt, diffAt, List.map_cons, List.sum_cons] at h ⊢
    rw [h]
    split <;> split <;> split <;> split <;> omega
theorem runBy_get (size : Int) : ∀ (row cs : List Int) (far : Int) (g : Nat → Int), row.length ≤ cs.length →
    (∀ j, j < row.length → g j = (if j = 0 then far else g (j - 1)) + cs.getD j 0) →
    ∀ j : Nat, (runBy size far row cs)[j]? = row[j]?.map fun x => (x + g j) % size := by
  intro row
  induction row with
  | nil => intro cs far g _ _ j; cases cs <;> simp [runBy]
  | cons f r ih =>
    intro cs far g hl hg j
    cases cs with
    | nil => simp at hl
    | cons c cs =>
      have g0 : g 0 = far + c := by
        have := hg 0 (by simp)
        simpa using this
      unfold runBy
      cases j with
      | zero => simp [g0]
      | succ j =>
        simp only [List.getElem?_cons_succ]
        have l2 : r.length ≤ cs.length := by simpa using hl
        refine ih cs (far + c) (fun k => g (k + 1)) l2 (fun k hk => ?_) j
        have := hg (k + 1) (by simp; omega)
        simp only [Nat.add_one_ne_zero, if_false, Nat.add_sub_cancel, List.getD_cons_succ] at this
        rw [this]
        cases k with
        | zero => simp [g0]
        | succ k => simp
theorem runBy_len (size : Int) : ∀ (row cs : List Int) (far : Int), row.length ≤ cs.length → (runBy size far row cs).length = row.length := by
  intro row
  induction row with
  | nil => intro cs far _; cases cs <;> rfl
  | cons f r ih =>
    intro cs far h
    cases cs with
    | nil => simp at h
    | cons c cs => simp [runBy, ih cs (far + c) (by simpa using h)]
theorem changes_length (n : Nat) (ds : List Deed) : (changes n ds).length = n + 1 := by
  unfold changes; rw [changes_len n]; simp
theorem turnedBy_len (size : Int) (row : List Int) (ds : List Deed) : (turnedBy size row ds).length = row.length :=
  runBy_len size row _ 0 (by rw [changes_length]; omega)
theorem turnedBy_get {size : Int} {row : List Int} {ds : List Deed} (hv : ∀ d ∈ ds, Okd row.length d) (j : Nat) :
    (turnedBy size row ds)[j]? = row[j]?.map fun x => (x + coverAt ds j) % size := by
  unfold turnedBy
  refine runBy_get size row _ 0 (fun j => coverAt ds j) (by rw [changes_length]; omega) (fun j hj => ?_) j
  have hc : (changes row.length ds).getD j 0 = diffAt ds j := by
    unfold changes
    rw [changes_get j (by omega) ds _ hv (by simp)]
    simp [List.getD_eq_getElem?_getD, List.getElem?_replicate]
    split <;> simp
  rw [hc]
  cases j with
  | zero => simpa using cover_zero _ hv
  | succ j =>
    have := cover_succ _ hv (j : Int)
    simpa using this
/-! the mirror of the law's own turning -/
def turnRange (size s : Int) (xs : List Int) (a : Nat) : Nat → List Int
  | 0 => xs
  | k + 1 => (turnRange size s xs a k).set (a + k) (((turnRange size s xs a k).getD (a + k) 0 + s) % size)
def turnOne (size : Int) (xs : List Int) (d : Deed) : List Int := turnRange size d.2.2 xs d.1.toNat (d.2.1 - d.1).toNat
def lawGo (size : Int) (n : Int) : List Int → List Deed → Option (List Int)
  | xs, [] => some xs
  | xs, d :: ds => if isDeed n d then lawGo size n (turnOne size xs d) ds else none
def lawTurned (size : Int) (row : List Int) (ds : List Deed) : Option (List Int) := lawGo size row.length row ds
theorem turnRange_len (size s : Int) (xs : List Int) (a : Nat) : ∀ k, (turnRange size s xs a k).length = xs.length
  | 0 => rfl
  | k + 1 => by simp [turnRange, turnRange_len size s xs a k]
theorem turnRange_get (size s : Int) (xs : List Int) (a : Nat) (j : Nat) : ∀ k, (turnRange size s xs a k)[j]? = xs[j]?.map fun x => if a ≤ j ∧ j < a + k then (x + s) % size else x
  | 0 => by
    simp only [turnRange, Nat.add_zero]
    cases xs[j]? with
    | none => rfl
    | some x => rw [Option.map_some, if_neg (by omega)]
  | k + 1 => by
    have ih := turnRange_get size s xs a j k
    have il := turnRange_len size s xs a k
    simp only [turnRange, List.getElem?_set, il]
    by_cases h : a + k = j
    · rw [if_pos h]
      have e : (turnRange size s xs a k).getD (a + k) 0 = ((turnRange size s xs a k)[j]?).getD 0 := by
        rw [List.getD_eq_getElem?_getD, h]
      rw [e, ih]
      by_cases hj : j < xs.length
      · simp only [List.getElem?_eq_getElem hj, Option.map_some, Option.getD_some]
        rw [if_neg (by omega : ¬ (a ≤ j ∧ j < a + k)), if_pos (by omega : a ≤ j ∧ j < a + (k + 1)), if_pos (by omega)]
      · rw [if_neg (by omega)]
        simp [List.getElem?_eq_none (Nat.le_of_not_lt hj)]
    · rw [if_neg h, ih]
      cases xs[j]? with
      | none => rfl
      | some x =>
        simp only [Option.map_some, Option.some.injEq]
        by_cases g : a ≤ j ∧ j < a + k
        · rw [if_pos g, if_pos (by omega)]
        · rw [if_neg g, if_neg (by omega)]
theorem turnOne_get {n : Nat} {size : Int} {xs : List Int} {d : Deed} (hd : Okd n d) (j : Nat) :
    (turnOne size xs d)[j]? = xs[j]?.map fun x => if d.1 ≤ j ∧ j < d.2.1 then (x + d.2.2) % size else x := by
  obtain ⟨h1, h2, h3, h4⟩ := hd
  unfold turnOne
  rw [turnRange_get]
  have e : (d.1.toNat ≤ j ∧ j < d.1.toNat + (d.2.1 - d.1).toNat) ↔ (d.1 ≤ j ∧ (j : Int) < d.2.1) := by omega
  simp only [e]
theorem turnOne_len {size : Int} {xs : List Int} {d : Deed} : (turnOne size xs d).length = xs.length := turnRange_len ..
def InR (size : Int) (row : List Int) : Prop := ∀ x ∈ row, 0 ≤ x ∧ x < size
theorem lawGo_get {size : Int} {n : Nat} (row : List Int) (hr : InR size row) : ∀ (ds : List Deed) (done : List Deed) (xs : List Int), (∀ d ∈ ds, Okd n d) →
    (∀ j : Nat, xs[j]? = row[j]?.map fun x => (x + coverAt done j) % size) → ∃ ys, lawGo size n xs ds = some ys ∧ ∀ j : Nat, ys[j]? = row[j]?.map fun x => (x + coverAt (done ++ ds) j) % size := by
  intro ds
  induction ds with
  | nil => intro done xs _ h; exact ⟨xs, rfl, by simpa using h⟩
  | cons d ds ih =>
    intro done xs hv h
    have hd := hv d List.mem_cons_self
    obtain ⟨ys, e1, e2⟩ := ih (done ++ [d]) (turnOne size xs d) (fun e he => hv e (List.mem_cons_of_mem _ he)) (fun j => by
      rw [turnOne_get hd, h j]
      cases row[j]? with
      | none => rfl
      | some x =>
        simp only [Option.map_some, Option.some.injEq, coverAt, List.map_append, List.sum_append, List.map_cons, List.sum_cons, List.map_nil, List.sum_nil]
        by_cases g : d.1 ≤ (j : Int) ∧ (j : Int) < d.2.1
        · rw [if_pos g, if_pos g, Int.emod_add_emod]; congr 1; omega
        · rw [if_neg g, if_neg g]; congr 1; omega)
    refine ⟨ys, ?_, ?_⟩
    · unfold lawGo
      rw [if_pos (isDeed_iff.mpr hd)]
      exact e1
    · simpa using e2
theorem lawTurned_ok {size : Int} {row : List Int} {ds : List Deed} (hr : InR size row) (hv : ∀ d ∈ ds, Okd row.length d) : lawTurned size row ds = some (turnedBy size row ds) := by
  obtain ⟨ys, e1, e2⟩ := lawGo_get (size := size) (n := row.length) row hr ds [] row hv (fun j => by
    cases h : row[j]? with
    | none => rfl
    | some x =>
      obtain ⟨h1, h2⟩ := hr x (List.mem_of_getElem? h)
      simp only [Option.map_some, Option.some.injEq, coverAt, List.map_nil, List.sum_nil, Int.add_zero]
      rw [Int.emod_eq_of_lt h1 h2])
  unfold lawTurned
  rw [e1]
  congr 1
  refine List.ext_getElem? fun j => ?_
  rw [e2 j, turnedBy_get hv]
  simp
theorem lawGo_none {size : Int} {n : Int} : ∀ (ds : List Deed) (xs : List Int), (∃ d ∈ ds, isDeed n d = false) → lawGo size n xs ds = none := by
  intro ds
  induction ds with
  | nil => intro xs h; obtain ⟨d, h, _⟩ := h; cases h
  | cons d ds ih =>
    intro xs h
    unfold lawGo
    by_cases g : isDeed n d = true
    · rw [if_pos g]
      refine ih _ ?_
      obtain ⟨e, he, hf⟩ := h
      rcases List.mem_cons.mp he with z | z
      · subst z; rw [g] at hf; cases hf
      · exact ⟨e, z, hf⟩
    · rw [if_neg g]
theorem turnedBy_inR {size : Int} (hs : 0 < size) {row : List Int} {ds : List Deed} : InR size (turnedBy size row ds) := by
  unfold turnedBy
  have : ∀ (row cs : List Int) (far : Int), InR size (runBy size far row cs) := by
    intro row
    induction row with
    | nil => intro cs far x hx; cases cs <;> simp [runBy] at hx
    | cons f r ih =>
      intro cs far x hx
      cases cs with
      | nil => simp [runBy] at hx
      | cons c cs =>
        unfold runBy at hx
        rcases List.mem_cons.mp hx with z | z
        · subst z; exact ⟨Int.emod_nonneg _ (by omega), Int.emod_lt_of_pos _ hs⟩
        · exact ih _ _ x z
  exact this _ _ _
/-! deeds back again, and one behind another -/
def negD (ds : List Deed) : List Deed := ds.map fun d => (d.1, d.2.1, -d.2.2)
theorem cover_neg (ds : List Deed) (j : Int) : coverAt (negD ds) j = - coverAt ds j := by
  induction ds with
  | nil => rfl
  | cons d ds ih =>
    simp only [coverAt, negD, List.map_cons, List.sum_cons, List.map_map] at ih ⊢
    rw [ih]
    split <;> omega
theorem neg_ok {n : Nat} {ds : List Deed} (hv : ∀ d ∈ ds, Okd n d) : ∀ d ∈ negD ds, Okd n d := by
  intro d hd
  obtain ⟨e, he, rfl⟩ := List.mem_map.mp hd
  obtain ⟨h1, h2, h3, h4⟩ := hv e he
  exact ⟨h1, h2, h3, by show -e.2.2 ≠ 0; omega⟩
theorem turned_back {size : Int} {row : List Int} {ds : List Deed} (hr : InR size row) (hv : ∀ d ∈ ds, Okd row.length d) : turnedBy size (turnedBy size row ds) (negD ds) = row := by
  refine List.ext_getElem? fun j => ?_
  rw [turnedBy_get (by rw [turnedBy_len]; exact neg_ok hv), turnedBy_get hv]
  cases h : row[j]? with
  | none => rfl
  | some x =>
    obtain ⟨h1, h2⟩ := hr x (List.mem_of_getElem? h)
    simp only [Option.map_some, Option.some.injEq]
    rw [cover_neg, Int.emod_add_emod, show x + coverAt ds ↑j + -coverAt ds ↑j = x by omega, Int.emod_eq_of_lt h1 h2]
theorem cover_append (a b : List Deed) (j : Int) : coverAt (a ++ b) j = coverAt a j + coverAt b j := by
  simp [coverAt]
theorem turned_two {size : Int} {row : List Int} {a b : List Deed} (ha : ∀ d ∈ a, Okd row.length d) (hb : ∀ d ∈ b, Okd row.length d) : turnedBy size (turnedBy size row b) a = turnedBy size row (a ++ b) := by
  refine List.ext_getElem? fun j => ?_
  rw [turnedBy_get (by rw [turnedBy_len]; exact ha), turnedBy_get hb, turnedBy_get (fun d hd => (List.mem_append.mp hd).elim (ha d) (hb d))]
  cases row[j]? with
  | none => rfl
  | some x =>
    simp only [Option.map_some, Option.some.injEq]
    rw [cover_append, Int.emod_add_emod]
    congr 1
    omega
end DM
namespace DM
/-! the laws' own sizes and rows -/
def lawSizes (m : Int) : List Int := [2, 3 + m / 5 % 5, 10, 10 ^ 20 + m % 1000, 60]
def lawSize (ns : List Int) : Int := (lawSizes ns.sum).getD (ns.sum / 11 % 5).toNat 0
theorem lawSize_ok (ns : List Int) : 2 ≤ lawSize ns ∧ lawSize ns < 2 ^ 67 := by
  unfold lawSize lawSizes
  have h : (ns.sum / 11 % 5).toNat < 5 := by omega
  generalize ns.sum = m at h
  generalize hk : (m / 11 % 5).toNat = k at h
  have h5 : 0 ≤ m / 5 % 5 ∧ m / 5 % 5 < 5 := by omega
  have h10 : 0 ≤ m % 1000 ∧ m % 1000 < 1000 := by omega
  rcases k with _ | _ | _ | _ | _ | k
  · show (2 : Int) ≤ 2 ∧ (2 : Int) < 2 ^ 67; omega
  · show (2 : Int) ≤ 3 + m / 5 % 5 ∧ 3 + m / 5 % 5 < 2 ^ 67; omega
  · show (2 : Int) ≤ 10 ∧ (10 : Int) < 2 ^ 67; omega
  · show (2 : Int) ≤ 10 ^ 20 + m % 1000 ∧ 10 ^ 20 + m % 1000 < 2 ^ 67; omega
  · show (2 : Int) ≤ 60 ∧ (60 : Int) < 2 ^ 67; omega
  · omega
def divs (size : Int) : List Int := [1, size, 7, size * 5]
def divOf (size by_ : Int) : Int := (divs size).getD (by_ % 4).toNat 0
theorem divOf_ok {size by_ : Int} (h : 2 ≤ size ∧ size < 2 ^ 67) : 0 < divOf size by_ ∧ divOf size by_ < 2 ^ 70 := by
  unfold divOf divs
  have h4 : (by_ % 4).toNat < 4 := by omega
  generalize (by_ % 4).toNat = k at h4
  rcases k with _ | _ | _ | _ | k
  · show (0 : Int) < 1 ∧ (1 : Int) < 2 ^ 70; omega
  · show (0 : Int) < size ∧ size < 2 ^ 70; omega
  · show (0 : Int) < 7 ∧ (7 : Int) < 2 ^ 70; omega
  · show (0 : Int) < size * 5 ∧ size * 5 < 2 ^ 70; omega
  · omega
def rowFig (size by_ m last cell : Int) : Int :=
  if m / 7 % 3 = 1 then (last + cell / divOf size by_ % size % 3 - 1) % size else cell / divOf size by_ % size
def rowStep (size by_ m : Int) (st : List Int × Int) (cell : Int) : List Int × Int :=
  (st.1 ++ [rowFig size by_ m st.2 cell], rowFig size by_ m st.2 cell)
def rowBase (ns : List Int) (size by_ : Int) : List Int × Int := ns.foldl (rowStep size by_ ns.sum) ([], 0)
def rowLong (xs : List Int) (m size by_ : Int) (n : Nat) : List Int :=
  (List.range n).map fun (a : Nat) => (xs.getD ((a : Int) * (by_ + 1) % xs.length).toNat 0 + (a : Int) / xs.length * by_) % size
def lawRow (ns : List Int) (size by_ : Int) : List Int :=
  if ns.sum / 21 % 9 = 4 ∧ (rowBase ns size by_).1 ≠ [] then rowLong (rowBase ns size by_).1 ns.sum size by_ (70 + ns.sum % 30).toNat else (rowBase ns size by_).1
theorem rowFig_ok {size by_ m last cell : Int} (h : 2 ≤ size) : 0 ≤ rowFig size by_ m last cell ∧ rowFig size by_ m last cell < size := by
  unfold rowFig
  split
  · exact ⟨Int.emod_nonneg _ (by omega), Int.emod_lt_of_pos _ (by omega)⟩
  · exact ⟨Int.emod_nonneg _ (by omega), Int.emod_lt_of_pos _ (by omega)⟩
theorem fold_row_len (size by_ m : Int) : ∀ (ns : List Int) (st : List Int × Int), (ns.foldl (rowStep size by_ m) st).1.length = st.1.length + ns.length
  | [], st => by simp
  | n :: ns, st => by
    rw [List.foldl_cons, fold_row_len size by_ m ns]
    simp [rowStep]
    omega
theorem fold_row_in {size by_ m : Int} (h : 2 ≤ size) : ∀ (ns : List Int) (st : List Int × Int), InR size st.1 → InR size (ns.foldl (rowStep size by_ m) st).1
  | [], st, hs => hs
  | n :: ns, st, hs => by
    rw [List.foldl_cons]
    refine fold_row_in h ns _ fun x hx => ?_
    rcases List.mem_append.mp hx with z | z
    · exact hs x z
    · rcases List.mem_singleton.mp z with rfl
      exact rowFig_ok h
theorem rowBase_len (ns : List Int) (size by_ : Int) : (rowBase ns size by_).1.length = ns.length := by
  unfold rowBase; rw [fold_row_len]; simp
theorem rowBase_in {ns : List Int} {size by_ : Int} (h : 2 ≤ size) : InR size (rowBase ns size by_).1 := fold_row_in h ns _ fun _ h => nomatch h
theorem rowLong_in {xs : List Int} {m size by_ : Int} {n : Nat} (h : 2 ≤ size) : InR size (rowLong xs m size by_ n) := fun x hx => by
  unfold rowLong at hx
  obtain ⟨a, _, rfl⟩ := List.mem_map.mp hx
  exact ⟨Int.emod_nonneg _ (by omega), Int.emod_lt_of_pos _ (by omega)⟩
theorem rowLong_len {xs : List Int} {m size by_ : Int} {n : Nat} : (rowLong xs m size by_ n).length = n := by simp [rowLong]
theorem lawRow_in {ns : List Int} {size by_ : Int} (h : 2 ≤ size) : InR size (lawRow ns size by_) := by
  unfold lawRow
  split
  · exact rowLong_in h
  · exact rowBase_in h
theorem lawRow_len1 {ns : List Int} {size by_ : Int} (h : ns.length ≤ 63) : (lawRow ns size by_).length ≤ 99 := by
  unfold lawRow
  split
  · rw [rowLong_len]; omega
  · rw [rowBase_len]; omega
theorem lawRow_len2 (ns : List Int) (size b c : Int) : (lawRow ns size b).length = (lawRow ns size c).length := by
  have e : ∀ b, (rowBase ns size b).1 ≠ [] ↔ ns ≠ [] := fun b => by
    have := rowBase_len ns size b
    constructor
    · intro h z; subst z; exact h (List.eq_nil_of_length_eq_zero this)
    · intro h z; rw [z] at this; exact h (List.eq_nil_of_length_eq_zero this.symm)
  unfold lawRow
  simp only [e]
  split
  · rw [rowLong_len, rowLong_len]
  · rw [rowBase_len, rowBase_len]

/-! k01: the deeds by the cells -/
def deedSteps (c : Int) (k : Nat) : List Int := [1 + c / 5 % 9, -1 - c / 5 % 9, c, -1 - (c + k) * (c + k)]
def deedOf (many : Int) (k : Nat) (c : Int) : Deed := (c / 3 % many, c / 3 % many + 1 + c / 11 % (many - c / 3 % many), (deedSteps c k).getD (c % 4).toNat 0)
def deedsFrom (many : Int) : Nat → List Int → List Deed
  | _, [] => []
  | k, c :: cs => if (deedOf many k c).2.2 = 0 then deedsFrom many (k + 1) cs else deedOf many k c :: deedsFrom many (k + 1) cs
def lawDeeds (ns : List Int) (many : Int) : List Deed := if 0 < many then deedsFrom many 0 ns else []
theorem deedsFrom_cons (many : Int) (k : Nat) (c : Int) (cs : List Int) : deedsFrom many k (c :: cs) = if (deedOf many k c).2.2 = 0 then deedsFrom many (k + 1) cs else deedOf many k c :: deedsFrom many (k + 1) cs := rfl
theorem deedsFrom_ok {n : Nat} (hn : 0 < n) : ∀ (ns : List Int) (k : Nat), ∀ d ∈ deedsFrom n k ns, Okd n d := by
  intro ns
  induction ns with
  | nil => intro k d h; cases h
  | cons c cs ih =>
    intro k d h
    unfold deedsFrom at h
    split at h
    · exact ih _ d h
    · rename_i h4
      rcases List.mem_cons.mp h with e | h
      · subst e
        have a1 : 0 ≤ c / 3 % (n : Int) := Int.emod_nonneg _ (by omega)
        have a2 : c / 3 % (n : Int) < n := Int.emod_lt_of_pos _ (by omega)
        have b1 : 0 ≤ c / 11 % ((n : Int) - c / 3 % (n : Int)) := Int.emod_nonneg _ (by omega)
        have b2 : c / 11 % ((n : Int) - c / 3 % (n : Int)) < (n : Int) - c / 3 % (n : Int) := Int.emod_lt_of_pos _ (by omega)
        exact ⟨a1, by show c / 3 % (n : Int) < c / 3 % (n : Int) + 1 + c / 11 % ((n : Int) - c / 3 % (n : Int)); omega, by show c / 3 % (n : Int) + 1 + _ ≤ _; omega, h4⟩
      · exact ih _ d h
theorem lawDeeds_ok {n : Nat} {ns : List Int} : ∀ d ∈ lawDeeds ns n, Okd n d := by
  intro d h
  unfold lawDeeds at h
  split at h
  · exact deedsFrom_ok (by omega) ns 0 d h
  · cases h
theorem deedsFrom_len (many : Int) : ∀ (ns : List Int) (k : Nat), (deedsFrom many k ns).length ≤ ns.length := by
  intro ns
  induction ns with
  | nil => intro k; exact Nat.le_refl _
  | cons c cs ih =>
    intro k
    unfold deedsFrom
    split
    · have := ih (k + 1); simp; omega
    · have := ih (k + 1); simp; omega
theorem lawDeeds_len (ns : List Int) (many : Int) : (lawDeeds ns many).length ≤ ns.length := by
  unfold lawDeeds
  split
  · exact deedsFrom_len _ _ _
  · simp
end DM
namespace Dial
open PySem PySem.Spec PyProof.Rows L2 Dr DM
def topS (i : Nat) : Stmt := PySem.Challenge.pw_dialrow_k01_whole_turned.main.body.getD i (.Pass ⟨0, 0, 0, 0⟩)
structure Dfn (K : PySem.W.Frag) (mg : Str → Option Value) (x : Str) (st : Stmt) (f : Addr) (fd : FuncData) (ps : List Str) : Prop where
  F : Fun K x x st f fd
  g : mg x = some (.ref f)
  b : Binds K fd ps []
abbrev s_is_number : Stmt := topS 6
abbrev N_is_number : List Str := ["thing"]
theorem sc_is_number : FnScope N_is_number ["thing"] (defScope s_is_number) := ⟨rfl, rfl, rfl, by decide +kernel, rfl, by decide +kernel, by decide +kernel⟩
abbrev s_asked_size : Stmt := topS 7
abbrev N_asked_size : List Str := ["size"]
theorem sc_asked_size : FnScope N_asked_size ["size"] (defScope s_asked_size) := ⟨rfl, rfl, rfl, by decide +kernel, rfl, by decide +kernel, by decide +kernel⟩
abbrev s_asked_row : Stmt := topS 8
abbrev N_asked_row : List Str := ["size", "row", "figure"]
theorem sc_asked_row : FnScope N_asked_row ["size", "row"] (defScope s_asked_row) := ⟨rfl, rfl, rfl, by decide +kernel, rfl, by decide +kernel, by decide +kernel⟩
abbrev s_is_deed : Stmt := topS 9
abbrev N_is_deed : List Str := ["many", "first", "end", "steps"]
theorem sc_is_deed : FnScope N_is_deed ["many", "first", "end", "steps"] (defScope s_is_deed) := ⟨rfl, rfl, rfl, by decide +kernel, rfl, by decide +kernel, by decide +kernel⟩
abbrev s_asked_deeds : Stmt := topS 10
abbrev N_asked_deeds : List Str := ["many", "deeds", "deed", "one"]
theorem sc_asked_deeds : FnScope N_asked_deeds ["many", "deeds"] (defScope s_asked_deeds) := ⟨rfl, rfl, rfl, by decide +kernel, rfl, by decide +kernel, by decide +kernel⟩
abbrev s_turned_by : Stmt := topS 11
abbrev N_turned_by : List Str := ["size", "row", "deeds", "changes", "first", "end", "steps", "found", "far", "figure", "change", "place"]
theorem sc_turned_by : FnScope N_turned_by ["size", "row", "deeds"] (defScope s_turned_by) := ⟨rfl, rfl, rfl, by decide +kernel, rfl, by decide +kernel, by decide +kernel⟩
abbrev s_turned : Stmt := topS 12
abbrev N_turned : List Str := ["size", "row", "deeds"]
theorem sc_turned : FnScope N_turned ["size", "row", "deeds"] (defScope s_turned) := ⟨rfl, rfl, rfl, by decide +kernel, rfl, by decide +kernel, by decide +kernel⟩
abbrev s__law_size : Stmt := topS 14
abbrev N__law_size : List Str := ["_law_script", "_law_mixed"]
theorem sc__law_size : FnScope N__law_size ["_law_script"] (defScope s__law_size) := ⟨rfl, rfl, rfl, by decide +kernel, rfl, by decide +kernel, by decide +kernel⟩
abbrev s__law_row : Stmt := topS 15
abbrev N__law_row : List Str := ["_law_script", "_law_size_here", "_law_by", "_law_mixed", "_law_found", "_law_last", "_law_cell", "_law_figure", "_law_some", "_law_at"]
theorem sc__law_row : FnScope N__law_row ["_law_script", "_law_size_here", "_law_by"] (defScope s__law_row) := ⟨rfl, rfl, rfl, by decide +kernel, rfl, by decide +kernel, by decide +kernel⟩
abbrev s__law_numbers : Stmt := topS 16
abbrev N__law_numbers : List Str := ["_law_found", "_law_one"]
theorem sc__law_numbers : FnScope N__law_numbers ["_law_found"] (defScope s__law_numbers) := ⟨rfl, rfl, rfl, by decide +kernel, rfl, by decide +kernel, by decide +kernel⟩
abbrev s__law_turned : Stmt := topS 17
abbrev N__law_turned : List Str := ["_law_size_here", "_law_row_here", "_law_deeds_here", "_law_found", "_law_first", "_law_end", "_law_steps", "_law_place"]
theorem sc__law_turned : FnScope N__law_turned ["_law_size_here", "_law_row_here", "_law_deeds_here"] (defScope s__law_turned) := ⟨rfl, rfl, rfl, by decide +kernel, rfl, by decide +kernel, by decide +kernel⟩
abbrev s__law_deeds : Stmt := topS 20
abbrev N__law_deeds : List Str := ["_law_script", "_law_many", "_law_found", "_law_at", "_law_cell", "_law_first", "_law_end", "_law_steps"]
theorem sc__law_deeds : FnScope N__law_deeds ["_law_script", "_law_many"] (defScope s__law_deeds) := ⟨rfl, rfl, rfl, by decide +kernel, rfl, by decide +kernel, by decide +kernel⟩
abbrev s_law : Stmt := topS 21
abbrev N_law : List Str := ["_law_script", "_law_size_here", "_law_row_here", "_law_deeds_here", "_law_half", "_law_some", "_law_handed", "_law_found", "_law_back", "_law_first", "_law_end", "_law_steps"]
theorem sc_law : FnScope N_law ["_law_script"] (defScope s_law) := ⟨rfl, rfl, rfl, by decide +kernel, rfl, by decide +kernel, by decide +kernel⟩

structure Txt (K : PySem.W.Frag) (mg : Str → Option Value) where
  f_is_number : Addr
  fd_is_number : FuncData
  D_is_number : Dfn K mg "is_number" s_is_number f_is_number fd_is_number ["thing"]
  f_asked_size : Addr
  fd_asked_size : FuncData
  D_asked_size : Dfn K mg "asked_size" s_asked_size f_asked_size fd_asked_size ["size"]
  f_asked_row : Addr
  fd_asked_row : FuncData
  D_asked_row : Dfn K mg "asked_row" s_asked_row f_asked_row fd_asked_row ["size", "row"]
  f_is_deed : Addr
  fd_is_deed : FuncData
  D_is_deed : Dfn K mg "is_deed" s_is_deed f_is_deed fd_is_deed ["many", "first", "end", "steps"]
  f_asked_deeds : Addr
  fd_asked_deeds : FuncData
  D_asked_deeds : Dfn K mg "asked_deeds" s_asked_deeds f_asked_deeds fd_asked_deeds ["many", "deeds"]
  f_turned_by : Addr
  fd_turned_by : FuncData
  D_turned_by : Dfn K mg "turned_by" s_turned_by f_turned_by fd_turned_by ["size", "row", "deeds"]
  f_turned : Addr
  fd_turned : FuncData
  D_turned : Dfn K mg "turned" s_turned f_turned fd_turned ["size", "row", "deeds"]
  f__law_size : Addr
  fd__law_size : FuncData
  D__law_size : Dfn K mg "_law_size" s__law_size f__law_size fd__law_size ["_law_script"]
  f__law_row : Addr
  fd__law_row : FuncData
  D__law_row : Dfn K mg "_law_row" s__law_row f__law_row fd__law_row ["_law_script", "_law_size_here", "_law_by"]
  f__law_numbers : Addr
  fd__law_numbers : FuncData
  D__law_numbers : Dfn K mg "_law_numbers" s__law_numbers f__law_numbers fd__law_numbers ["_law_found"]
  f__law_turned : Addr
  fd__law_turned : FuncData
  D__law_turned : Dfn K mg "_law_turned" s__law_turned f__law_turned fd__law_turned ["_law_size_here", "_law_row_here", "_law_deeds_here"]
  f__law_deeds : Addr
  fd__law_deeds : FuncData
  D__law_deeds : Dfn K mg "_law_deeds" s__law_deeds f__law_deeds fd__law_deeds ["_law_script", "_law_many"]
  f_law : Addr
  fd_law : FuncData
  D_law : Dfn K mg "law" s_law f_law fd_law ["_law_script"]
  z_abs : mg "abs" = none
  z_all : mg "all" = none
  z_bool : mg "bool" = none
  z_enumerate : mg "enumerate" = none
  z_int : mg "int" = none
  z_isinstance : mg "isinstance" = none
  z_len : mg "len" = none
  z_list : mg "list" = none
  z_min : mg "min" = none
  z_range : mg "range" = none
  z_sum : mg "sum" = none
  z_tuple : mg "tuple" = none
  z_zip : mg "zip" = none

variable {P : Program} {w : World} {K : PySem.W.Frag} {mg : Str → Option Value} {base : Heap}
/-! is_number -/
def sp_is_number (K : PySem.W.Frag) : Sp := fun vs H Q _ => ∃ i, vs = [.int i] ∧ Q (.bl true) H
theorem ok_is_number (T : Txt K mg) : FnOk P w K mg base CX0 1 T.f_is_number T.fd_is_number ["thing"] (sp_is_number K) := by
  refine T.D_is_number.F.ok sc_is_number (fun vs H Q E h => ?_) (fun cdv A outer s H vs Q E hr h => ?_)
  · obtain ⟨i, rfl, _⟩ := h; rfl
  · obtain ⟨i, rfl, q⟩ := h
    refine ⟨_, (pss_one (ps_ret (pe_and (pe_callB (id := "isinstance") (r := rIsi K) call_isi (by rfl) T.z_isinstance (by decide +kernel) (pa_cons (pv 0) (pa_cons (pe_bltn (v := .ty "int") (by rfl) T.z_int (by decide +kernel) rfl) pa_nil))) (pe_one (pe_not (pe_callB (id := "isinstance") (r := rIsi K) call_isi (by rfl) T.z_isinstance (by decide +kernel) (pa_cons (pv 0) (pa_cons (pe_bltn (v := .ty "bool") (by rfl) T.z_bool (by decide +kernel) rfl) pa_nil)))))))), ?_⟩
    refine ⟨_, rfl, _, _, _, _, true, rfl, .ty _, .base (.int i), kit_ty (by decide +kernel), true, rfl, ?_⟩
    exact ⟨_, rfl, _, _, _, _, false, rfl, .ty _, .base (.int i), kit_ty (by decide +kernel), false, rfl, q⟩
/-! asked_size -/
def sp_asked_size (K : PySem.W.Frag) : Sp := fun vs H Q _ => ∃ n, vs = [.int n] ∧ 2 ≤ n ∧ Q .non H
theorem ok_asked_size (T : Txt K mg) : FnOk P w K mg base CX0 2 T.f_asked_size T.fd_asked_size ["size"] (sp_asked_size K) := by
  refine T.D_asked_size.F.ok sc_asked_size (fun vs H Q E h => ?_) (fun cdv A outer s H vs Q E hr h => ?_)
  · obtain ⟨i, rfl, _⟩ := h; rfl
  · obtain ⟨n, rfl, h2, q⟩ := h
    refine ⟨_, (pss_one (ps_if (PW.pt (pw_or (pt_not (pt_val (pe_call (ok_is_number T) (hr.mono (by decide)) (by rfl) T.D_is_number.g T.D_is_number.F.kp T.D_is_number.b .nil pass0 (pa_cons (pv 0) pa_nil)))) (pw_or1 (pt_cmpR op_lt (pv 0) pe_int (nomark _))))) (pss_one ps_never) pss_nil)), ?_⟩
    refine ⟨_, rfl, n, rfl, true, rfl, ?_⟩
    refine ⟨_, rfl, n, 2, rfl, rfl, _, rfl, ?_⟩
    rw [decide_eq_false (by omega)]
    exact q
/-! is_deed -/
def sp_is_deed (K : PySem.W.Frag) : Sp := fun vs H Q _ => ∃ (n : Int) (d : Deed), vs = [.int n, .int d.1, .int d.2.1, .int d.2.2] ∧ Q (.bl (isDeed n d)) H
theorem ok_is_deed (T : Txt K mg) : FnOk P w K mg base CX0 1 T.f_is_deed T.fd_is_deed ["many", "first", "end", "steps"] (sp_is_deed K) := by
  refine T.D_is_deed.F.ok sc_is_deed (fun vs H Q E h => ?_) (fun cdv A outer s H vs Q E hr h => ?_)
  · obtain ⟨n, d, rfl, _⟩ := h; rfl
  · obtain ⟨n, ⟨f, e, st⟩, rfl, q⟩ := h
    refine ⟨_, (pss_one (ps_ret (pe_and (pe_chain3 op_le op_lt op_le pe_int (pv 1) (pv 2) (pv 0)) (pe_one (pe_cmpR op_ne (pv 3) pe_int (nomark _)))))), ?_⟩
    have q' : Q (.bl ((decide (0 ≤ f) && (decide (f < e) && decide (e ≤ n))) && !decide (st = 0))) H := q
    clear q
    refine ⟨_, rfl, 0, f, rfl, rfl, _, rfl, ?_⟩
    by_cases h1 : 0 ≤ f
    · rw [decide_eq_true h1] at q' ⊢
      refine ⟨_, rfl, f, e, rfl, rfl, _, rfl, ?_⟩
      by_cases h2 : f < e
      · rw [decide_eq_true h2] at q' ⊢
        refine ⟨_, rfl, e, n, rfl, rfl, _, rfl, ?_⟩
        by_cases h3 : e ≤ n
        · rw [decide_eq_true h3] at q' ⊢
          refine ⟨_, rfl, rfl, ?_⟩
          have e0 : decide (V.int st = V.int 0) = decide (st = 0) := by simp
          rw [e0]
          exact q'
        · rw [decide_eq_false h3] at q' ⊢
          exact q'
      · rw [decide_eq_false h2] at q' ⊢
        exact ⟨_, rfl, q'⟩
    · rw [decide_eq_false h1] at q' ⊢
      exact ⟨_, rfl, q'⟩
end Dial
namespace Dial
open PySem PySem.Spec PyProof.Rows L2 Dr DM
variable {P : Program} {w : World} {K : PySem.W.Frag} {mg : Str → Option Value} {base : Heap}
theorem small {n : Nat} (h : n ≤ 100000) : n < sizeLine := Nat.lt_of_le_of_lt h (by decide)
/-! asked_row -/
def sp_asked_row (K : PySem.W.Frag) : Sp := fun vs H Q _ => ∃ (G : Hp) (size : Int) (row : List Int) (v : V), vs = [.int size, v] ∧ Same G H ∧ Dp K G v (dI row) ∧ InR size row ∧ row.length ≤ 1000 ∧ RtV G H .non Q
theorem ok_asked_row (T : Txt K mg) : FnOk P w K mg base CX0 2 T.f_asked_row T.fd_asked_row ["size", "row"] (sp_asked_row K) := by
  refine T.D_asked_row.F.ok sc_asked_row (fun vs H Q E h => ?_) (fun cdv A outer s H vs Q E hr h => ?_)
  · obtain ⟨G, size, row, v, rfl, _⟩ := h; rfl
  · obtain ⟨G, size, row, v, rfl, e, hd, hin, hl, q⟩ := h
    obtain ⟨a, rfl, hq⟩ := dp_ints hd
    have s : S K G H [] [] G H := S.start e (fun _ h => nomatch h)
    refine ⟨_, (pss_one (ps_if (PW.pt (pw_or (pt_not (pt_val (pe_callB (id := "isinstance") (r := rIsi K) call_isi (by rfl) T.z_isinstance (by decide +kernel) (pa_cons (pv 1) (pa_cons (pe_bltn (v := .ty "list") (by rfl) T.z_list (by decide +kernel) rfl) pa_nil))))) (pw_or1 (pt_not (pt_val (pe_callB (id := "all") (r := rAll K) (cr_all rfl) (by rfl) T.z_all (by decide +kernel) (pa_cons (pe_lc (own := [("figure", 2)]) (g := gName 2) (tt := tYes) rfl sc_asked_row.nd (pi_list (pv 1)) (blkOk_by (own := [("figure", 2)]) (N := N_asked_row) (sc := defScope s_asked_row) (by decide +kernel)) (fun _ _ _ _ _ => pg_name (i := 2) sc_asked_row.nd rfl (Or.inl rfl)) (fun _ _ _ _ _ => pts_nil) (fun _ _ _ _ _ => (pe_and (pe_call (ok_is_number T) (hr.mono (by decide)) (by rfl) T.D_is_number.g T.D_is_number.F.kp T.D_is_number.b .nil pass0 (pa_cons (pv 2) pa_nil)) (pe_one (pe_chain op_le op_lt pe_int (pv 2) (pv 0)))))) pa_nil))))))) (pss_one ps_never) pss_nil)), ?_⟩
    refine ⟨.ref a, rfl, _, _, _, _, true, rfl, .ty _, tyx_list (e.seq hq), kit_ty (by decide +kernel), true, rfl, ?_⟩
    refine ⟨.ref a, rfl, a, rfl, ⟨_, e.seq hq⟩, fun D hD => lc_wk (wk_list hq (dpAll_ints row)) s hD (Same.refl _) (by rw [List.length_map]; exact small (by omega)) ((row.map fun _ => true).map PyData.bool) (by simp) (fun i d x G1 H1 hi hy s1 hx R k => ?_) (fun xs G1 H1 s1 hxs => ?_)⟩
    · obtain ⟨n, hn, rfl⟩ := map_get hy
      cases dp_int hx
      obtain ⟨h1, h2⟩ := hin n (List.mem_of_getElem? hn)
      refine ⟨rfl, ?_⟩
      refine ⟨_, rfl, n, rfl, true, rfl, ?_⟩
      refine ⟨_, rfl, 0, n, rfl, rfl, _, rfl, ?_⟩
      rw [decide_eq_true h1]
      refine ⟨_, rfl, n, size, rfl, rfl, ?_⟩
      show R (.bl (decide (n < size))) H1
      rw [decide_eq_true h2]
      exact k _ _ _ _ (Gr.refl s1.same) (by simp [hn]) (.bl true)
    · rw [dpAll_bools hxs] at s1
      refine ⟨D, _, rfl, SqL.of (s1.o 0 rfl), _, rfl, ?_⟩
      have e1 : ((row.map fun _ => true).all id) = true := by simp
      rw [e1]
      exact q.out s1

/-! asked_deeds -/
theorem at_int {C : List Int} {i : Int} (h0 : 0 ≤ i) (h1 : i < C.length) : atI (C.map V.int) i = some (.int (C.getD i.toNat 0)) := by
  have e : i = ((i.toNat : Nat) : Int) := by omega
  rw [e]
  refine atI_nat ?_
  rw [List.getElem?_map, List.getElem?_eq_getElem (show i.toNat < C.length by omega), List.getD_eq_getElem?_getD, Int.toNat_natCast, List.getElem?_eq_getElem (show i.toNat < C.length by omega)]
  rfl
theorem ixN_nn {n : Nat} {i : Int} (h0 : 0 ≤ i) (h1 : i < n) : ixN n i = some i.toNat := by
  unfold ixN
  rw [if_pos h0, if_pos h1]
def sp_asked_deeds (K : PySem.W.Frag) : Sp := fun vs H Q _ => ∃ (G : Hp) (n : Nat) (ds : List Deed) (v : V), vs = [.int n, v] ∧ Same G H ∧ Dp K G v (dT ds) ∧ (∀ d ∈ ds, Okd n d) ∧ RtV G H .non Q
theorem ok_asked_deeds (T : Txt K mg) : FnOk P w K mg base CX0 2 T.f_asked_deeds T.fd_asked_deeds ["many", "deeds"] (sp_asked_deeds K) := by
  refine T.D_asked_deeds.F.ok sc_asked_deeds (fun vs H Q E h => ?_) (fun cdv A outer s H vs Q E hr h => ?_)
  · obtain ⟨G, n, ds, v, rfl, _⟩ := h; rfl
  · obtain ⟨G, n, ds, v, rfl, e, hd, hv, q⟩ := h
    obtain ⟨a, xs, rfl, hq, ha⟩ := dp_list hd
    have s : S K G H [] [] G H := S.start e (fun _ h => nomatch h)
    refine ⟨_, (pss_cons (ps_if (pt_not (pt_val (pe_callB (id := "isinstance") (r := rIsi K) call_isi (by rfl) T.z_isinstance (by decide +kernel) (pa_cons (pv 1) (pa_cons (pe_bltn (v := .ty "list") (by rfl) T.z_list (by decide +kernel) rfl) pa_nil))))) (pss_one ps_never) pss_nil)
    (pss_one (ps_for PassesOwn.never rfl (pi_list (pv 1)) (pg_name (i := 2) sc_asked_deeds.nd rfl (Or.inl rfl)) (pss_cons (ps_if (PW.pt (pw_or (pt_not (pt_val (pe_callB (id := "isinstance") (r := rIsi K) call_isi (by rfl) T.z_isinstance (by decide +kernel) (pa_cons (pv 2) (pa_cons (pe_bltn (v := .ty "tuple") (by rfl) T.z_tuple (by decide +kernel) rfl) pa_nil))))) (pw_or (pt_cmpR op_ne (pe_callB (id := "len") (r := rLen K) call_lenK (by rfl) T.z_len PySem.boot_len (pa_cons (pv 2) pa_nil)) pe_int (nomark _)) (pw_or1 (pt_not (pt_val (pe_callB (id := "all") (r := rAll K) (cr_all rfl) (by rfl) T.z_all (by decide +kernel) (pa_cons (pe_lc (own := [("one", 3)]) (g := gName 3) (tt := tYes) rfl sc_asked_deeds.nd (pi_tup (pv 2)) (blkOk_by (own := [("one", 3)]) (N := N_asked_deeds) (sc := defScope s_asked_deeds) (by decide +kernel)) (fun _ _ _ _ _ => pg_name (i := 3) sc_asked_deeds.nd rfl (Or.inl rfl)) (fun _ _ _ _ _ => pts_nil) (fun _ _ _ _ _ => (pe_call (ok_is_number T) (hr.mono (by decide)) (by rfl) T.D_is_number.g T.D_is_number.F.kp T.D_is_number.b .nil pass0 (pa_cons (pv 3) pa_nil)))) pa_nil)))))))) (pss_one ps_never) pss_nil)
      (pss_one (ps_if (pt_not (pt_val (pe_call (ok_is_deed T) (hr.mono (by decide)) (by rfl) T.D_is_deed.g T.D_is_deed.F.kp T.D_is_deed.b .nil pass0 (pa_cons (pv 0) (pa_cons (pe_ix (r := rIxT K) ix_tup (pv 2) pe_int (fun _ _ => rfl)) (pa_cons (pe_ix (r := rIxT K) ix_tup (pv 2) pe_int (fun _ _ => rfl)) (pa_cons (pe_ix (r := rIxT K) ix_tup (pv 2) pe_int (fun _ _ => rfl)) pa_nil))))))) (pss_one ps_never) pss_nil)))))), ?_⟩
    refine ⟨.ref a, rfl, _, _, _, _, true, rfl, .ty _, tyx_list (e.seq hq), kit_ty (by decide +kernel), true, rfl, ?_⟩
    refine ⟨.ref a, rfl, a, rfl, ⟨_, e.seq hq⟩, for_wk (wk_list hq ha) (fun i σ G1 H1 => ∃ y, σ = [some (.int n), some (.ref a), y, none] ∧ S K G H [] [] G1 H1)
      ⟨G, none, rfl, s⟩ (fun i σ G1 H1 ⟨y, e1, s1⟩ => ⟨s1.gr.g, s1.same⟩) (fun i d x σ G1 H1 G2 H2 hi ⟨y, e1, s1⟩ g2 hy hx => ?_) (fun σ G1 H1 ⟨y, e1, s1⟩ => ?_)⟩
    · subst e1
      obtain ⟨t, ht, rfl⟩ := map_get hy
      have okt := hv t (List.mem_of_getElem? ht)
      obtain ⟨p, rfl, hp⟩ := dp_d3 hx
      have s2 := (s1.grow g2).add hx
      have hp2 := Same.tup s2.same hp
      refine ⟨_, rfl, _, _, _, _, true, rfl, .ty _, tyx_tup hp2, kit_ty (by decide +kernel), true, rfl, ?_⟩
      refine ⟨_, rfl, p, _, rfl, .inr hp2, rfl, _, rfl, ?_⟩
      refine ⟨.ref p, rfl, p, rfl, ⟨_, hp2⟩, fun D hD => lc_wk (wk_tup (ds := [.int t.1, .int t.2.1, .int t.2.2]) hp (.cons (.int _) (.cons (.int _) (.cons (.int _) .nil)))) s2 hD (Same.refl _) (small (by show 3 ≤ 100000; decide)) ([true, true, true].map PyData.bool) rfl (fun i d x G1 H1 hi hy s1 hx R k => ?_) (fun xs G1 H1 s1 hxs => ?_)⟩
      · have hn : ∃ m, d = .int m := by
          rcases i with _ | _ | _ | i <;> simp at hy <;> first | exact ⟨_, hy.symm⟩ | simp at hi
        obtain ⟨m, rfl⟩ := hn
        cases dp_int hx
        refine ⟨rfl, _, rfl, m, rfl, ?_⟩
        refine k _ _ _ (.bool true) (Gr.refl s1.same) ?_ (.bl true)
        rcases i with _ | _ | _ | i <;> first | rfl | (simp at hi; omega)
      · rw [dpAll_bools hxs] at s1
        refine ⟨D, _, rfl, SqL.of (s1.o 0 rfl), _, rfl, ?_⟩
        obtain ⟨p', e2, hp3⟩ := dp_d3 (s1.g 0 rfl)
        cases e2
        have hp4 := Same.tup s1.same hp3
        refine ⟨_, rfl, _, rfl, p, _, 0, _, rfl, rfl, hp4, rfl, _, rfl, p, _, 1, _, rfl, rfl, hp4, rfl, _, rfl, p, _, 2, _, rfl, rfl, hp4, rfl, n, t, rfl, isDeed n t, rfl, ?_⟩
        rw [isDeed_iff.mpr okt]
        exact ⟨G1, _, rfl, s1.drop.tail⟩
    · subst e1
      exact q.out s1

/-! turned_by -/
theorem sumT {l : List Int} {i : Nat} {c : Int} (h : l[i]? = some c) : (l.take (i + 1)).sum = (l.take i).sum + c := sum_take h
theorem runBy_at (size : Int) : ∀ (row cs : List Int) (far : Int) (i : Nat) (f c : Int), row[i]? = some f → cs[i]? = some c → (runBy size far row cs)[i]? = some ((f + (far + (cs.take i).sum + c)) % size)
  | [], _, _, _, _, _, h, _ => by simp at h
  | _ :: _, [], _, _, _, _, _, h => by simp at h
  | a :: r, b :: cs, far, 0, f, c, h1, h2 => by
    cases Option.some.inj h1
    cases Option.some.inj h2
    show some ((a + (far + b)) % size) = _
    simp
  | a :: r, b :: cs, far, i + 1, f, c, h1, h2 => by
    have ih := runBy_at size r cs (far + b) i f c h1 h2
    show (runBy size (far + b) r cs)[i]? = _
    rw [ih, List.take_succ_cons, List.sum_cons]
    congr 4
    omega
theorem int_set {C : List Int} {j : Nat} {x : Int} : (C.map V.int).set j (.int x) = (C.set j x).map V.int := by rw [List.map_set]
theorem take_map {α : Type} {f : α → V} {l : List α} {i : Nat} {x : α} (h : l[i]? = some x) : (l.take i).map f ++ [f x] = (l.take (i + 1)).map f := by
  rw [List.take_add_one, h, List.map_append]; rfl
def sp_turned_by (K : PySem.W.Frag) : Sp := fun vs H Q _ => ∃ (G : Hp) (size : Int) (row : List Int) (ds : List Deed) (v u : V), vs = [.int size, v, u] ∧ Same G H ∧ Dp K G v (dI row) ∧ Dp K G u (dT ds) ∧
  (0 < size ∧ row.length ≤ 1000 ∧ ∀ d ∈ ds, Okd row.length d) ∧ RtL K G H ((turnedBy size row ds).map .int) Q
theorem ok_turned_by (T : Txt K mg) : FnOk P w K mg base CX0 1 T.f_turned_by T.fd_turned_by ["size", "row", "deeds"] (sp_turned_by K) := by
  refine T.D_turned_by.F.ok sc_turned_by (fun vs H Q E h => ?_) (fun cdv A outer s H vs Q E hr h => ?_)
  · obtain ⟨G, size, row, ds, v, u, rfl, _⟩ := h; rfl
  · obtain ⟨G, size, row, ds, v, u, rfl, e, hrow, hds, ⟨hs, hl, hv⟩, q⟩ := h
    have s : S K G H [(v, dI row), (u, dT ds)] [] G H := S.start e (by
      intro p hp
      simp only [List.mem_cons, List.not_mem_nil, or_false] at hp
      rcases hp with rfl | rfl
      · exact hrow
      · exact hds)
    obtain ⟨a, rfl, hq⟩ := dp_ints hrow
    refine ⟨_, (pss_cons (ps_setLc (i := 3) (own := [("place", 11)]) (g := gName 11) (tt := tYes) rfl sc_turned_by.nd rfl rfl (sw_true rfl rfl rfl (by decide +kernel)) (pi_range1 (by rfl) T.z_range (pa_cons (pe_op op_add (pe_callB (id := "len") (r := rLen K) call_lenK (by rfl) T.z_len PySem.boot_len (pa_cons (pv 1) pa_nil)) pe_int) pa_nil)) (blkOk_by (own := [("place", 11)]) (N := N_turned_by) (sc := defScope s_turned_by) (by decide +kernel)) (fun _ _ _ _ _ => pg_name (i := 11) sc_turned_by.nd rfl (Or.inl rfl)) (fun _ _ _ _ _ => pts_nil) (fun _ _ _ _ _ => pe_int))
    (pss_cons (ps_for PassesOwn.never rfl (pi_list (pv 2)) ((pg_tup rfl (pgs_cons (pg_name (i := 4) sc_turned_by.nd rfl (Or.inl rfl)) (pgs_cons (pg_name (i := 5) sc_turned_by.nd rfl (Or.inl rfl)) (pgs_cons (pg_name (i := 6) sc_turned_by.nd rfl (Or.inl rfl)) pgs_nil))))) (pss_cons (ps_asg (pe_op op_add (pe_ix (r := rIxL K) ix_list (pv 3) (pv 4) (fun _ _ => rfl)) (pv 6)) (pg_sub (pv 3) (pv 4) set_list))
      (pss_one (ps_asg (pe_op op_sub (pe_ix (r := rIxL K) ix_list (pv 3) (pv 5) (fun _ _ => rfl)) (pv 6)) (pg_sub (pv 3) (pv 5) set_list)))))
    (pss_cons (ps_set (i := 7) sc_turned_by.nd rfl (.inl rfl) (pe_lst pa_nil))
    (pss_cons (ps_set (i := 8) sc_turned_by.nd rfl (.inl rfl) pe_int)
    (pss_cons (ps_for PassesOwn.never rfl (pi_zip (by rfl) T.z_zip (pa_cons (pv 1) (pa_cons (pv 3) pa_nil))) ((pg_tup rfl (pgs_cons (pg_name (i := 9) sc_turned_by.nd rfl (Or.inl rfl)) (pgs_cons (pg_name (i := 10) sc_turned_by.nd rfl (Or.inl rfl)) pgs_nil)))) (pss_cons (ps_set (i := 8) sc_turned_by.nd rfl (.inl rfl) (pe_op op_add (pv 8) (pv 10)))
      (pss_one (ps_expr (pe_bm PySem.F.plainAttrs_list PySem.F.slot_list_append PySem.F.type_list_append mt_append (pv 7) (pa_cons (pe_op op_mod (pe_op op_add (pv 9) (pv 8)) (pv 0)) pa_nil))))))
    (pss_one (ps_ret (pv 7)))))))), ?_⟩
    -- changes = [0 for ..]
    refine ⟨.ref a, rfl, a, _, rfl, .inl (e.seq hq), _, 1, rfl, rfl, _, rfl, ?_, ?_, ?_⟩
    · rw [List.length_map]; omega
    · rw [List.length_map]; omega
    rw [List.length_map]
    refine fun D hD => lc_wk (G := G) (wk_rng (G := G)) s hD (Same.refl _) (small (by omega)) ((List.replicate (row.length + 1) (0 : Int)).map PyData.int) (by simp) (fun i d x G1 H1 hi hy s1 hx R k => ?_) (fun xs G1 H1 s1 hxs => ?_)
    · refine ⟨rfl, k _ _ _ (.int 0) (Gr.refl s1.same) ?_ (.int 0)⟩
      rw [List.map_replicate, List.getElem?_replicate, if_pos (by omega)]
    rw [ints_dpAll hxs] at s1
    clear hxs
    obtain ⟨b, ys, e2, hq2, ha2⟩ := dp_list (s1.g 1 rfl)
    cases e2
    -- for first, end, steps in deeds
    refine ⟨.ref b, rfl, b, rfl, ⟨_, s1.same.seq hq2⟩, for_wk (wk_list hq2 ha2) (fun i σ G2 H2 => ∃ y4 y5 y6, σ = [some (.int size), some (.ref a), some (.ref b), some (.ref D), y4, y5, y6, none, none, none, none, none] ∧ Same G1 G2 ∧
        S K G H [(.ref a, dI row), (.ref b, dT ds)] [(D, .lst (((ds.take i).foldl bumpD (List.replicate (row.length + 1) 0)).map V.int))] G2 H2)
      ⟨G1, none, none, none, rfl, Same.refl _, s1⟩ (fun i σ G2 H2 ⟨y4, y5, y6, e1, e3, s2⟩ => ⟨e3, s2.same⟩) (fun i d x σ G2 H2 G3 H3 hi ⟨y4, y5, y6, e1, e3, s2⟩ g3 hy hx => ?_) (fun σ G2 H2 ⟨y4, y5, y6, e1, e3, s2⟩ => ?_)⟩
    · subst e1
      obtain ⟨t, ht, rfl⟩ := map_get hy
      have okt := hv t (List.mem_of_getElem? ht)
      obtain ⟨o1, o2, o3, o4⟩ := okt
      obtain ⟨p, rfl, hp⟩ := dp_d3 hx
      have s3 := s2.grow g3
      have hp3 := Same.tup s3.same hp
      refine ⟨p, _, rfl, hp3, rfl, _, _, rfl, _, _, rfl, _, _, rfl, rfl, ?_⟩
      have lc : ((ds.take i).foldl bumpD (List.replicate (row.length + 1) 0)).length = row.length + 1 := by
        rw [changes_len row.length]; simp
      have et : (ds.take (i + 1)).foldl bumpD (List.replicate (row.length + 1) 0) = bumpD ((ds.take i).foldl bumpD (List.replicate (row.length + 1) 0)) t := by
        rw [List.take_add_one, ht, List.foldl_append]; rfl
      rw [et]
      generalize hC : (ds.take i).foldl bumpD (List.replicate (row.length + 1) 0) = C at s3 lc
      obtain ⟨f, en, st⟩ := t
      simp only at o1 o2 o3 o4
      -- changes[first] = changes[first] + steps
      refine ⟨.ref D, rfl, _, rfl, D, _, _, _, rfl, rfl, SqL.of (s3.o 0 rfl), at_int o1 (by omega), _, rfl, _, _, rfl, rfl, .ref D, rfl, _, rfl, D, _, _, _, rfl, rfl, s3.o 0 rfl, ixN_nn o1 (by rw [List.length_map]; omega), ?_⟩
      have s4 := s3.put 0 rfl (.lst ((C.map V.int).set f.toNat (.int (C.getD f.toNat 0 + st))))
      rw [int_set] at s4 ⊢
      have l4 : (C.set f.toNat (C.getD f.toNat 0 + st)).length = row.length + 1 := by rw [List.length_set]; exact lc
      refine ⟨.ref D, rfl, _, rfl, D, _, _, _, rfl, rfl, SqL.of (s4.o 0 rfl), at_int (i := en) (by omega) (by omega), _, rfl, _, _, rfl, rfl, .ref D, rfl, _, rfl, D, _, _, _, rfl, rfl, s4.o 0 rfl, ixN_nn (i := en) (by omega) (by rw [List.length_map]; omega), ?_⟩
      have s5 := s4.put 0 rfl (.lst (((C.set f.toNat (C.getD f.toNat 0 + st)).map V.int).set en.toNat (.int ((C.set f.toNat (C.getD f.toNat 0 + st)).getD en.toNat 0 - st))))
      rw [int_set] at s5 ⊢
      exact ⟨G3, _, _, _, rfl, e3.trans g3.g, s5⟩
    · subst e1
      have el : (dT ds |> fun _ => (ds.map d3).length) = ds.length := by simp
      rw [List.length_map, List.take_of_length_le (Nat.le_refl _)] at s2
      -- found = []; far = 0
      refine ⟨Nat.zero_le _, fun F hF => ?_⟩
      have s3 := (s2.give (dpAll_ints _)).new (o := .lst []) hF
      clear s2
      have hcl : (ds.foldl bumpD (List.replicate (row.length + 1) 0)).length = row.length + 1 := by
        rw [changes_len row.length]; simp
      generalize hC : ds.foldl bumpD (List.replicate (row.length + 1) 0) = C at s3 hcl
      have etb : turnedBy size row ds = runBy size 0 row C := by unfold turnedBy changes; rw [hC]
      obtain ⟨c, e4, hc4⟩ := dp_ints (s3.g 0 rfl)
      cases e4
      obtain ⟨a', e5, ha5⟩ := dp_ints (s3.g 1 rfl)
      cases e5
      refine ⟨_, rfl, _, rfl, a, D, _, _, rfl, s3.same.seq ha5, s3.same.seq hc4, for_wk (wk_zip ha5 (dpAll_ints row) hc4 (dpAll_ints C)) (fun i σ G4 H4 => ∃ y4 y5 y6 y9 y10, σ = [some (.int size), some (.ref a), some (.ref b), some (.ref D), y4, y5, y6, some (.ref F), some (.int (C.take i).sum), y9, y10, none] ∧ Same _ G4 ∧
          S K G H [] [(F, .lst (((runBy size 0 row C).take i).map V.int))] G4 H4)
        ⟨_, _, _, _, none, none, rfl, Same.refl _, s3.less (fun _ h => nomatch h)⟩ (fun i σ G2 H2 ⟨y4, y5, y6, y9, y10, e1, e3, s2⟩ => ⟨e3, s2.same⟩) (fun i d x σ G2 H2 G3 H3 hi ⟨y4, y5, y6, y9, y10, e1, e3, s2⟩ g3 hy hx => ?_) (fun σ G2 H2 ⟨y4, y5, y6, y9, y10, e1, e3, s2⟩ => ?_)⟩
      · subst e1
        obtain ⟨x1, x2, h1, h2, rfl⟩ := hy
        obtain ⟨n1, hn1, rfl⟩ := map_get h1
        obtain ⟨n2, hn2, rfl⟩ := map_get h2
        obtain ⟨p, rfl, hp⟩ := dp_pairI hx
        have s4 := s2.grow g3
        refine ⟨p, _, rfl, Same.tup s4.same hp, rfl, _, _, rfl, _, _, rfl, rfl, ?_⟩
        -- far = far + change; found.append(..)
        refine ⟨_, rfl, _, rfl, _, _, rfl, rfl, ?_⟩
        refine ⟨.ref F, rfl, .inl ⟨rfl, _, SqL.of (s4.o 0 rfl)⟩, _, rfl, _, rfl, _, _, rfl, rfl, _, rfl, _, _, rfl, rfl, hs, F, _, _, rfl, rfl, s4.o 0 rfl, ?_, ?_⟩
        · rw [List.length_map, List.length_take]; exact small (by simp only [List.length_map] at hi; omega)
        · have s5 := s4.put 0 rfl (.lst (((runBy size 0 row C).take i).map V.int ++ [.int ((n1 + ((C.take i).sum + n2)) % size)]))
          have er := runBy_at size row C 0 i n1 n2 hn1 hn2
          rw [Int.zero_add] at er
          refine ⟨G3, y4, y5, y6, some (.int n1), some (.int n2), ?_, e3.trans g3.g, ?_⟩
          · rw [sumT hn2]
            rfl
          · rw [← take_map (f := V.int) er]
            exact s5
      · subst e1
        refine ⟨_, rfl, ?_⟩
        rw [List.length_map, List.length_map, show min row.length C.length = row.length by omega, ← runBy_len size row C 0 (by omega), List.take_of_length_le (Nat.le_refl _), ← etb] at s2
        exact q.out s2 (dpAll_ints _)
/-! turned -/
def sp_turned (K : PySem.W.Frag) : Sp := fun vs H Q _ => ∃ (G : Hp) (size : Int) (row : List Int) (ds : List Deed) (v u : V), vs = [.int size, v, u] ∧ Same G H ∧ Dp K G v (dI row) ∧ Dp K G u (dT ds) ∧
  (2 ≤ size ∧ row.length ≤ 1000 ∧ InR size row ∧ ∀ d ∈ ds, Okd row.length d) ∧ RtL K G H ((turnedBy size row ds).map .int) Q
theorem RtL.grow {K : PySem.W.Frag} {G H G' H' : Hp} {ds : List PyData} {Q : VK} (q : RtL K G H ds Q) (g : Gr G H G' H') : RtL K G' H' ds Q :=
  fun l xs G2 H2 g2 h0 hg hh hd => q l xs G2 H2 (g.trans g2) (g.h.free h0) hg hh hd
theorem Rt.grow {K : PySem.W.Frag} {G H G' H' : Hp} {d : PyData} {Q : VK} (q : Rt K G H d Q) (g : Gr G H G' H') : Rt K G' H' d Q :=
  fun v G2 H2 g2 hd => q v G2 H2 (g.trans g2) hd
theorem RtV.grow {G H G' H' : Hp} {v : V} {Q : VK} (q : RtV G H v Q) (g : Gr G H G' H') : RtV G' H' v Q :=
  fun G2 H2 g2 => q G2 H2 (g.trans g2)
theorem ok_turned (T : Txt K mg) : FnOk P w K mg base CX0 3 T.f_turned T.fd_turned ["size", "row", "deeds"] (sp_turned K) := by
  refine T.D_turned.F.ok sc_turned (fun vs H Q E h => ?_) (fun cdv A outer s H vs Q E hr h => ?_)
  · obtain ⟨G, size, row, ds, v, u, rfl, _⟩ := h; rfl
  · obtain ⟨G, size, row, ds, v, u, rfl, e, hrow, hds, ⟨hs, hl, hin, hv⟩, q⟩ := h
    refine ⟨_, (pss_cons (ps_expr (pe_call (ok_asked_size T) (hr.mono (by decide)) (by rfl) T.D_asked_size.g T.D_asked_size.F.kp T.D_asked_size.b .nil pass0 (pa_cons (pv 0) pa_nil)))
    (pss_cons (ps_expr (pe_call (ok_asked_row T) (hr.mono (by decide)) (by rfl) T.D_asked_row.g T.D_asked_row.F.kp T.D_asked_row.b .nil pass0 (pa_cons (pv 0) (pa_cons (pv 1) pa_nil))))
    (pss_cons (ps_expr (pe_call (ok_asked_deeds T) (hr.mono (by decide)) (by rfl) T.D_asked_deeds.g T.D_asked_deeds.F.kp T.D_asked_deeds.b .nil pass0 (pa_cons (pe_callB (id := "len") (r := rLen K) call_lenK (by rfl) T.z_len PySem.boot_len (pa_cons (pv 1) pa_nil)) (pa_cons (pv 2) pa_nil))))
    (pss_one (ps_ret (pe_call (ok_turned_by T) (hr.mono (by decide)) (by rfl) T.D_turned_by.g T.D_turned_by.F.kp T.D_turned_by.b .nil pass0 (pa_cons (pv 0) (pa_cons (pv 1) (pa_cons (pv 2) pa_nil))))))))), ?_⟩
    refine ⟨_, rfl, size, rfl, hs, ?_⟩
    refine ⟨_, rfl, _, rfl, G, size, row, v, rfl, e, hrow, hin, hl, fun G1 H1 g1 => ?_⟩
    obtain ⟨a, rfl, hq⟩ := dp_ints (Dp.mono g1.g _ _ hrow)
    have hq1 := g1.s.seq hq
    refine ⟨_, rfl, a, _, rfl, .inl hq1, _, rfl, G1, row.length, ds, u, ?_, g1.s, Dp.mono g1.g _ _ hds, hv, fun G2 H2 g2 => ?_⟩
    · rw [List.length_map]; rfl
    have g3 := g1.trans g2
    exact ⟨_, rfl, _, rfl, _, rfl, G2, size, row, ds, .ref a, u, rfl, g3.s, Dp.mono g3.g _ _ hrow, Dp.mono g3.g _ _ hds, ⟨by omega, hl, hv⟩, RtL.grow q g3⟩
end Dial
namespace Dial
open PySem PySem.Spec PyProof.Rows L2 Dr DM
variable {P : Program} {w : World} {K : PySem.W.Frag} {mg : Str → Option Value} {base : Heap}
theorem small3 {n : Nat} (h : n ≤ 100000) : n ≤ sizeLine := Nat.le_trans h (by decide)
theorem S.tupO {K : PySem.W.Frag} {G0 H0 G H : Hp} {Γ : List (V × PyData)} {Λ : List (Addr × HO)} (s : S K G0 H0 Γ Λ G H) {p : Addr} {o : HO} (h : H p = none) : S K G0 H0 Γ Λ G (upd H p o) := s.grow (Gr.out s.same h)
theorem div_ok {i j : Int} (h : 0 < j) (hb : j < 2 ^ 80) : CDivW i j := wide_div (b := 80) h (by omega) (by decide) (by decide)
/-! _law_size -/
def sp__law_size (K : PySem.W.Frag) : Sp := fun vs H Q _ => ∃ (G : Hp) (ns : List Int) (v : V), vs = [v] ∧ Same G H ∧ Dp K G v (dI ns) ∧ RtV G H (.int (lawSize ns)) Q
theorem ok__law_size (T : Txt K mg) : FnOk P w K mg base CX0 1 T.f__law_size T.fd__law_size ["_law_script"] (sp__law_size K) := by
  refine T.D__law_size.F.ok sc__law_size (fun vs H Q E h => ?_) (fun cdv A outer s H vs Q E hr h => ?_)
  · obtain ⟨G, ns, v, rfl, _⟩ := h; rfl
  · obtain ⟨G, ns, v, rfl, e, hd, q⟩ := h
    obtain ⟨a, rfl, hq⟩ := dp_ints hd
    refine ⟨_, (pss_cons (ps_set (i := 1) sc__law_size.nd rfl (.inl rfl) (pe_callB (id := "sum") (r := rSum K) (cr_sum rfl) (by rfl) T.z_sum (by decide +kernel) (pa_cons (pv 0) pa_nil)))
    (pss_one (ps_ret (pe_ix (r := rIxT K) ix_tup (pe_tup (pa_cons pe_int (pa_cons (pe_op op_add pe_int (pe_op op_mod (pe_op op_fdivW (pv 1) pe_int) pe_int)) (pa_cons pe_int (pa_cons (pe_op op_add (pe_op op_pow pe_int pe_int) (pe_op op_mod (pv 1) pe_int)) (pa_cons pe_int pa_nil)))))) (pe_op op_mod (pe_op op_fdivW (pv 1) pe_int) pe_int) (fun _ _ => rfl))))), ?_⟩
    refine ⟨.ref a, rfl, a, ns, rfl, e.seq hq, ?_⟩
    refine ⟨_, rfl, _, _, rfl, rfl, div_ok (by decide) (by decide), _, _, rfl, rfl, (by show (0 : Int) < 5; decide), _, _, rfl, rfl, ?_⟩
    refine ⟨_, _, rfl, rfl, ⟨by decide, by decide, by decide⟩, _, rfl, _, _, rfl, rfl, (by show (0 : Int) < 1000; decide), _, _, rfl, rfl, ?_⟩
    refine ⟨small3 (by show 5 ≤ 100000; decide), fun p hp => ?_⟩
    refine ⟨_, rfl, _, _, rfl, rfl, div_ok (by decide) (by decide), _, _, rfl, rfl, (by show (0 : Int) < 5; decide), ?_⟩
    refine ⟨p, _, _, _, rfl, rfl, .inl (.inl upd_same), at_int (C := lawSizes ns.sum) (i := ns.sum / 11 % 5) (by omega) (by show ns.sum / 11 % 5 < 5; omega), ?_⟩
    exact q _ _ (Gr.out e hp)

/-! _law_row -/
def sp__law_row (K : PySem.W.Frag) : Sp := fun vs H Q _ => ∃ (G : Hp) (ns : List Int) (v : V) (size b : Int), vs = [v, .int size, .int b] ∧ Same G H ∧ Dp K G v (dI ns) ∧ (2 ≤ size ∧ size < 2 ^ 67 ∧ 0 ≤ b ∧ b ≤ 3 ∧ ns.length ≤ 63) ∧ RtL K G H ((lawRow ns size b).map .int) Q
theorem mul_small {i j : Int} (h1 : -(2 ^ 80) < i) (h2 : i < 2 ^ 80) (h3 : -(2 ^ 80) < j) (h4 : j < 2 ^ 80) : IntMulOk i j := mulOk_pow (a := 80) (b := 80) (by omega) (by omega) (by decide) (by decide) (by decide)
theorem ok__law_row (T : Txt K mg) : FnOk P w K mg base CX0 1 T.f__law_row T.fd__law_row ["_law_script", "_law_size_here", "_law_by"] (sp__law_row K) := by
  refine T.D__law_row.F.ok sc__law_row (fun vs H Q E h => ?_) (fun cdv A outer s H vs Q E hr h => ?_)
  · obtain ⟨G, ns, v, size, b, rfl, _⟩ := h; rfl
  · obtain ⟨G, ns, v, size, b, rfl, e, hd, ⟨hs, hs2, hb0, hb3, hl⟩, q⟩ := h
    obtain ⟨a, rfl, hq⟩ := dp_ints hd
    have s : S K G H [] [] G H := S.start e (fun _ h => nomatch h)
    refine ⟨_, (pss_cons (ps_set (i := 3) sc__law_row.nd rfl (.inl rfl) (pe_callB (id := "sum") (r := rSum K) (cr_sum rfl) (by rfl) T.z_sum (by decide +kernel) (pa_cons (pv 0) pa_nil)))
    (pss_cons (ps_set (i := 4) sc__law_row.nd rfl (.inl rfl) (pe_lst pa_nil))
    (pss_cons (ps_set (i := 5) sc__law_row.nd rfl (.inl rfl) pe_int)
    (pss_cons (ps_for PassesOwn.never rfl (pi_list (pv 0)) (pg_name (i := 6) sc__law_row.nd rfl (Or.inl rfl)) (pss_cons (ps_set (i := 7) sc__law_row.nd rfl (.inl rfl) (pe_op op_mod (pe_op op_fdivW (pv 6) (pe_ix (r := rIxT K) ix_tup (pe_tup (pa_cons pe_int (pa_cons (pv 1) (pa_cons pe_int (pa_cons (pe_op op_mulB (pv 1) pe_int) pa_nil))))) (pe_op op_mod (pv 2) pe_int) (fun _ _ => rfl))) (pv 1)))
      (pss_cons (ps_if (pt_cmpR op_eq (pe_op op_mod (pe_op op_fdivW (pv 3) pe_int) pe_int) pe_int (nomark _)) (pss_one (ps_set (i := 7) sc__law_row.nd rfl (.inl rfl) (pe_op op_mod (pe_op op_sub (pe_op op_add (pv 5) (pe_op op_mod (pv 7) pe_int)) pe_int) (pv 1)))) pss_nil)
      (pss_cons (ps_set (i := 5) sc__law_row.nd rfl (.inl rfl) (pv 7))
      (pss_one (ps_expr (pe_bm PySem.F.plainAttrs_list PySem.F.slot_list_append PySem.F.type_list_append mt_append (pv 4) (pa_cons (pv 7) pa_nil))))))))
    (pss_cons (ps_if (PW.pt (pw_and (pt_cmpR op_eq (pe_op op_mod (pe_op op_fdivW (pv 3) pe_int) pe_int) pe_int (nomark _)) (pw_and1 (pt_cmpR (op_neD hr.units) (pv 4) (pe_lst pa_nil) (nomark _))))) (pss_cons (ps_set (i := 8) sc__law_row.nd rfl (.inl rfl) (pv 4))
      (pss_cons (ps_set (i := 4) sc__law_row.nd rfl (.inl rfl) (pe_lst pa_nil))
      (pss_one (ps_for PassesOwn.never rfl (pi_range1 (by rfl) T.z_range (pa_cons (pe_op op_add pe_int (pe_op op_mod (pv 3) pe_int)) pa_nil)) (pg_name (i := 9) sc__law_row.nd rfl (Or.inl rfl)) (pss_cons (ps_set (i := 7) sc__law_row.nd rfl (.inl rfl) (pe_ix (r := rIxL K) ix_list (pv 8) (pe_op op_mod (pe_op op_mulB (pv 9) (pe_op op_add (pv 2) pe_int)) (pe_callB (id := "len") (r := rLen K) call_lenK (by rfl) T.z_len PySem.boot_len (pa_cons (pv 8) pa_nil))) (fun _ _ => rfl)))
        (pss_one (ps_expr (pe_bm PySem.F.plainAttrs_list PySem.F.slot_list_append PySem.F.type_list_append mt_append (pv 4) (pa_cons (pe_op op_mod (pe_op op_add (pv 7) (pe_op op_mulB (pe_op op_fdivW (pv 9) (pe_callB (id := "len") (r := rLen K) call_lenK (by rfl) T.z_len PySem.boot_len (pa_cons (pv 8) pa_nil))) (pv 2))) (pv 1)) pa_nil))))))))) pss_nil)
    (pss_one (ps_ret (pv 4)))))))), ?_⟩
    -- mixed, found, last
    refine ⟨.ref a, rfl, a, ns, rfl, e.seq hq, ?_⟩
    refine ⟨Nat.zero_le _, fun F hF => ?_⟩
    have s1 := s.new (o := .lst []) hF
    generalize hm : ns.sum = m
    refine ⟨.ref a, rfl, a, rfl, ⟨_, s1.same.seq hq⟩, for_wk (wk_list hq (dpAll_ints ns)) (fun i σ G1 H1 => ∃ y6 y7, σ = [some (.ref a), some (.int size), some (.int b), some (.int m), some (.ref F), some (.int ((ns.take i).foldl (rowStep size b m) ([], 0)).2), y6, y7, none, none] ∧
        S K G H [] [(F, .lst (((ns.take i).foldl (rowStep size b m) ([], 0)).1.map V.int))] G1 H1)
      ⟨_, none, none, rfl, s1⟩ (fun i σ G1 H1 ⟨y6, y7, e1, s1⟩ => ⟨s1.gr.g, s1.same⟩) (fun i d x σ G1 H1 G2 H2 hi ⟨y6, y7, e1, s1⟩ g2 hy hx => ?_) (fun σ G1 H1 ⟨y6, y7, e1, s1⟩ => ?_)⟩
    · subst e1
      obtain ⟨cell, hc, rfl⟩ := map_get hy
      cases dp_int hx
      have s2 := s1.grow g2
      have ef : (ns.take (i + 1)).foldl (rowStep size b m) ([], 0) = rowStep size b m ((ns.take i).foldl (rowStep size b m) ([], 0)) cell := by
        rw [List.take_add_one, hc, List.foldl_append]; rfl
      rw [ef]
      have hlen : ((ns.take i).foldl (rowStep size b m) ([], 0)).1.length ≤ 63 := by
        rw [fold_row_len, List.length_take]; show 0 + _ ≤ 63; omega
      generalize (ns.take i).foldl (rowStep size b m) ([], 0) = st at s2 hlen
      obtain ⟨fo, la⟩ := st
      simp only at hlen
      -- figure = cell // (..)[by % 4] % size
      refine ⟨_, rfl, _, rfl, _, rfl, _, _, rfl, rfl, mul_small (by omega) (by omega) (by omega) (by omega), small3 (by show 4 ≤ 100000; decide), fun p hp => ?_⟩
      have s3 := S.tupO (o := .tup ((divs size).map V.int)) s2 hp
      have hdv := divOf_ok (size := size) (by_ := b) ⟨hs, hs2⟩
      refine ⟨_, rfl, _, _, rfl, rfl, (by show (0 : Int) < 4; decide), p, _, _, _, rfl, rfl, .inl (.inl upd_same), at_int (C := divs size) (i := b % 4) (by omega) (by show b % 4 < 4; omega), ?_⟩
      refine ⟨_, _, rfl, rfl, div_ok hdv.1 (Int.lt_trans hdv.2 (by decide)), _, rfl, _, _, rfl, rfl, (by show 0 < size; omega), ?_⟩
      -- if mixed // 7 % 3 == 1
      refine ⟨_, rfl, _, _, rfl, rfl, div_ok (by decide) (by decide), _, _, rfl, rfl, (by show (0 : Int) < 3; decide), rfl, _, rfl, ?_⟩
      have fin : ∀ fig : Int, fig = rowFig size b m la cell → ∃ G3 y6 y7, [some (V.ref a), some (.int size), some (.int b), some (.int m), some (.ref F), some (.int fig), some (.int cell), some (.int fig), none, none] = [some (V.ref a), some (.int size), some (.int b), some (.int m), some (.ref F), some (.int (rowStep size b m (fo, la) cell).2), y6, y7, none, none] ∧
          S K G H [] [(F, .lst ((rowStep size b m (fo, la) cell).1.map V.int))] G3 (upd (upd H2 p (.tup ((divs size).map V.int))) F (.lst (fo.map V.int ++ [V.int fig]))) := fun fig hf => by
        subst hf
        refine ⟨G2, _, _, rfl, ?_⟩
        have s4 := s3.put 0 rfl (.lst (fo.map V.int ++ [V.int (rowFig size b m la cell)]))
        show S K G H [] [(F, .lst ((fo ++ [rowFig size b m la cell]).map V.int))] G2 _
        rw [List.map_append]
        exact s4
      have hF3 : (upd H2 p (.tup ((divs size).map V.int))) F = some (.lst (fo.map V.int)) := s3.o 0 rfl
      refine ite2 (fun c => ?_) (fun c => ?_)
      · have c' : m / 7 % 3 = 1 := by simpa using c
        refine ⟨_, rfl, _, rfl, _, _, rfl, rfl, (by show (0 : Int) < 3; decide), _, _, rfl, rfl, _, _, rfl, rfl, _, rfl, _, _, rfl, rfl, (by show 0 < size; omega), ?_⟩
        refine ⟨_, rfl, .ref F, rfl, .inl ⟨rfl, _, SqL.of hF3⟩, _, rfl, F, _, _, rfl, rfl, hF3, small (by rw [List.length_map]; omega), ?_⟩
        refine fin _ ?_
        unfold rowFig divOf
        rw [if_pos c']
      · have c' : ¬ m / 7 % 3 = 1 := by simpa using c
        refine ⟨_, rfl, .ref F, rfl, .inl ⟨rfl, _, SqL.of hF3⟩, _, rfl, F, _, _, rfl, rfl, hF3, small (by rw [List.length_map]; omega), ?_⟩
        refine fin _ ?_
        unfold rowFig divOf
        rw [if_neg c']
    · subst e1
      rw [List.length_map, List.take_of_length_le (Nat.le_refl _)] at s1
      rw [List.length_map, List.take_of_length_le (Nat.le_refl _)]
      have eb : ns.foldl (rowStep size b m) ([], 0) = rowBase ns size b := by unfold rowBase; rw [hm]
      rw [eb] at s1 ⊢
      have hbl := rowBase_len ns size b
      generalize hbs : rowBase ns size b = st at s1 hbl
      obtain ⟨fo, la⟩ := st
      simp only at hbl
      -- if mixed // 21 % 9 == 4 and found != []
      refine ⟨_, rfl, _, _, rfl, rfl, div_ok (by decide) (by decide), _, _, rfl, rfl, (by show (0 : Int) < 9; decide), rfl, _, rfl, ?_⟩
      by_cases c1 : m / 21 % 9 = 4
      · have e1 : decide (V.int (m / 21 % 9) = V.int 4) = true := by simp [c1]
        show if decide (V.int (m / 21 % 9) = V.int 4) = true then _ else _
        rw [if_pos e1]
        refine ⟨.ref F, rfl, Nat.zero_le _, fun p hp => ?_⟩
        have s2 := S.tupO (o := .lst []) s1 hp
        refine ⟨dI fo, dI [], ints_dp (SqL.of (s2.o 0 rfl)), ints_dp (ns := []) (.inl (.inl upd_same)), shaped_dI _, shaped_dI _, _, rfl, ?_⟩
        rw [eqv_dI]
        by_cases c2 : fo = []
        · rw [decide_eq_true c2]
          refine ⟨_, rfl, RtL.out q s2 ?_⟩
          have er : lawRow ns size b = fo := by
            unfold lawRow; rw [hbs, if_neg (fun z => z.2 c2)]
          rw [er]; exact dpAll_ints _
        · rw [decide_eq_false c2]
          have er : lawRow ns size b = rowLong fo m size b (70 + m % 30).toNat := by
            unfold lawRow; rw [hbs, hm, if_pos ⟨c1, c2⟩]
          rw [er] at q
          have hfl : 0 < fo.length := by
            cases fo with
            | nil => exact absurd rfl c2
            | cons => simp
          -- some = found; found = []
          refine ⟨_, rfl, Nat.zero_le _, fun N hN => ?_⟩
          have s3 := ((s2.give (dpAll_ints fo))).new (o := .lst []) hN
          have hm30 : 0 ≤ m % 30 ∧ m % 30 < 30 := by omega
          refine ⟨_, rfl, _, _, rfl, rfl, (by show (0 : Int) < 30; decide), _, _, rfl, rfl, _, rfl, ?_, ?_, ?_⟩
          · omega
          · omega
          generalize hn : (70 + m % 30).toNat = n
          have hnl : n ≤ 100 := by omega
          obtain ⟨f', e4, hf4⟩ := dp_ints (s3.g 0 rfl)
          cases e4
          refine for_wk (wk_rng (K := K) (G := _)) (fun i σ G4 H4 => ∃ y6 y7 y9, σ = [some (.ref a), some (.int size), some (.int b), some (.int m), some (.ref N), some (.int la), y6, y7, some (.ref F), y9] ∧ Same _ G4 ∧
              S K G H [(.ref F, dI fo)] [(N, .lst (((rowLong fo m size b n).take i).map V.int))] G4 H4)
            ⟨_, _, _, none, rfl, Same.refl _, s3⟩ (fun i σ G2 H2 ⟨y6, y7, y9, e1, e3, s2⟩ => ⟨e3, s2.same⟩) (fun i d x σ G2 H2 G3 H3 hi ⟨y6, y7, y9, e1, e3, s2⟩ g3 hy hx => ?_) (fun σ G2 H2 ⟨y6, y7, y9, e1, e3, s2⟩ => ?_)
          · subst e1
            subst hy
            cases dp_int hx
            have s4 := s2.grow g3
            obtain ⟨f', e5, hf5⟩ := dp_ints (s4.g 0 rfl)
            cases e5
            have hf6 := s4.same.seq hf5
            have ez : (0 : Int) + (i : Int) = (i : Int) := Int.zero_add _
            rw [ez]
            have hmod : 0 ≤ (i : Int) * (b + 1) % (fo.length : Int) ∧ (i : Int) * (b + 1) % (fo.length : Int) < fo.length := ⟨Int.emod_nonneg _ (by omega), Int.emod_lt_of_pos _ (by omega)⟩
            have hdiv : 0 ≤ (i : Int) / (fo.length : Int) ∧ (i : Int) / (fo.length : Int) ≤ i := ⟨Int.ediv_nonneg (by omega) (by omega), Int.ediv_le_self _ (by omega)⟩
            refine ⟨_, rfl, _, rfl, _, rfl, _, _, rfl, rfl, _, _, rfl, rfl, mul_small (by omega) (by omega) (by omega) (by omega), _, rfl, F, _, rfl, .inl hf6, _, _, rfl, rfl, (by show (0 : Int) < ((fo.map V.int).length : Nat); rw [List.length_map]; omega), ?_⟩
            rw [List.length_map]
            refine ⟨F, _, _, _, rfl, rfl, hf6, at_int hmod.1 hmod.2, ?_⟩
            have er2 : (rowLong fo m size b n)[i]? = some ((fo.getD ((i : Int) * (b + 1) % fo.length).toNat 0 + (i : Int) / fo.length * b) % size) := by
              unfold rowLong
              rw [List.getElem?_map, List.getElem?_range hi]; rfl
            refine ⟨_, rfl, .inl ⟨rfl, _, SqL.of (s4.o 0 rfl)⟩, _, rfl, _, rfl, _, rfl, F, _, rfl, .inl hf6, _, _, rfl, rfl, div_ok (by rw [List.length_map]; omega) (by rw [List.length_map]; omega), ?_⟩
            rw [List.length_map]
            refine ⟨_, rfl, _, _, rfl, rfl, mul_small (by omega) (by omega) (by omega) (by omega), _, _, rfl, rfl, _, rfl, _, _, rfl, rfl, (by show 0 < size; omega), N, _, _, rfl, rfl, s4.o 0 rfl, ?_, ?_⟩
            · rw [List.length_map, List.length_take]; exact small (by omega)
            · refine ⟨G3, y6, _, _, rfl, e3.trans g3.g, ?_⟩
              rw [← take_map (f := V.int) er2]
              exact s4.put 0 rfl _
          · subst e1
            have el : (rowLong fo m size b n).length = n := rowLong_len
            rw [List.take_of_length_le (Nat.le_of_eq el)] at s2
            exact ⟨_, rfl, RtL.out q s2 (by rw [hn]; exact dpAll_ints _)⟩
      · have e1 : ¬ decide (V.int (m / 21 % 9) = V.int 4) = true := by simp [c1]
        show if decide (V.int (m / 21 % 9) = V.int 4) = true then _ else _
        rw [if_neg e1]
        refine ⟨_, rfl, RtL.out q s1 ?_⟩
        have er : lawRow ns size b = fo := by
          unfold lawRow; rw [hbs, hm, if_neg (fun z => c1 z.1)]
        rw [er]; exact dpAll_ints _

/-! _law_numbers -/
def sp__law_numbers (K : PySem.W.Frag) : Sp := fun vs H Q _ => ∃ (G : Hp) (ns : List Int) (v : V), vs = [v] ∧ Same G H ∧ Dp K G v (dI ns) ∧ ns.length ≤ 1000 ∧ RtV G H (.bl true) Q
theorem ok__law_numbers (T : Txt K mg) : FnOk P w K mg base CX0 1 T.f__law_numbers T.fd__law_numbers ["_law_found"] (sp__law_numbers K) := by
  refine T.D__law_numbers.F.ok sc__law_numbers (fun vs H Q E h => ?_) (fun cdv A outer s H vs Q E hr h => ?_)
  · obtain ⟨G, ns, v, rfl, _⟩ := h; rfl
  · obtain ⟨G, ns, v, rfl, e, hd, hl, q⟩ := h
    obtain ⟨a, rfl, hq⟩ := dp_ints hd
    have s : S K G H [] [] G H := S.start e (fun _ h => nomatch h)
    refine ⟨_, (pss_cons (ps_if (pt_not (pt_val (pe_callB (id := "isinstance") (r := rIsi K) call_isi (by rfl) T.z_isinstance (by decide +kernel) (pa_cons (pv 0) (pa_cons (pe_bltn (v := .ty "list") (by rfl) T.z_list (by decide +kernel) rfl) pa_nil))))) (pss_one (ps_ret pe_bl)) pss_nil)
    (pss_one (ps_ret (pe_callB (id := "all") (r := rAll K) (cr_all rfl) (by rfl) T.z_all (by decide +kernel) (pa_cons (pe_lc (own := [("_law_one", 1)]) (g := gName 1) (tt := tYes) rfl sc__law_numbers.nd (pi_list (pv 0)) (blkOk_by (own := [("_law_one", 1)]) (N := N__law_numbers) (sc := defScope s__law_numbers) (by decide +kernel)) (fun _ _ _ _ _ => pg_name (i := 1) sc__law_numbers.nd rfl (Or.inl rfl)) (fun _ _ _ _ _ => pts_nil) (fun _ _ _ _ _ => (pe_and (pe_callB (id := "isinstance") (r := rIsi K) call_isi (by rfl) T.z_isinstance (by decide +kernel) (pa_cons (pv 1) (pa_cons (pe_bltn (v := .ty "int") (by rfl) T.z_int (by decide +kernel) rfl) pa_nil))) (pe_one (pe_not (pe_callB (id := "isinstance") (r := rIsi K) call_isi (by rfl) T.z_isinstance (by decide +kernel) (pa_cons (pv 1) (pa_cons (pe_bltn (v := .ty "bool") (by rfl) T.z_bool (by decide +kernel) rfl) pa_nil)))))))) pa_nil))))), ?_⟩
    refine ⟨.ref a, rfl, _, _, _, _, true, rfl, .ty _, tyx_list (e.seq hq), kit_ty (by decide +kernel), true, rfl, ?_⟩
    refine ⟨.ref a, rfl, a, rfl, ⟨_, e.seq hq⟩, fun D hD => lc_wk (wk_list hq (dpAll_ints ns)) s hD (Same.refl _) (by rw [List.length_map]; exact small (by omega)) ((ns.map fun _ => true).map PyData.bool) (by simp) (fun i d x G1 H1 hi hy s1 hx R k => ?_) (fun xs G1 H1 s1 hxs => ?_)⟩
    · obtain ⟨n, hn, rfl⟩ := map_get hy
      cases dp_int hx
      refine ⟨rfl, ?_⟩
      refine ⟨_, rfl, _, _, _, _, true, rfl, .ty _, .base (.int n), kit_ty (by decide +kernel), true, rfl, ?_⟩
      refine ⟨_, rfl, _, _, _, _, false, rfl, .ty _, .base (.int n), kit_ty (by decide +kernel), false, rfl, ?_⟩
      exact k _ _ _ _ (Gr.refl s1.same) (by simp [hn]) (.bl true)
    · rw [dpAll_bools hxs] at s1
      refine ⟨D, _, rfl, SqL.of (s1.o 0 rfl), ?_⟩
      have e1 : ((ns.map fun _ => true).all id) = true := by simp
      rw [e1]
      exact q _ _ s1.gr
/-! _law_turned -/
def optI : Option (List Int) → PyData
  | none => .none
  | some xs => dI xs
def sp__law_turned (K : PySem.W.Frag) : Sp := fun vs H Q _ => ∃ (G : Hp) (size : Int) (row : List Int) (ds : List Deed) (v u : V), vs = [.int size, v, u] ∧ Same G H ∧ Dp K G v (dI row) ∧ Dp K G u (dT ds) ∧
  (0 < size ∧ row.length ≤ 1000) ∧ Rt K G H (optI (lawTurned size row ds)) Q
theorem getD_take {xs : List Int} {size st : Int} {a k : Nat} (h : a + k < xs.length) : (turnRange size st xs a k).getD (a + k) 0 = xs.getD (a + k) 0 := by
  rw [List.getD_eq_getElem?_getD, turnRange_get, List.getD_eq_getElem?_getD]
  cases xs[a + k]? with
  | none => rfl
  | some x => simp
theorem ok__law_turned (T : Txt K mg) : FnOk P w K mg base CX0 1 T.f__law_turned T.fd__law_turned ["_law_size_here", "_law_row_here", "_law_deeds_here"] (sp__law_turned K) := by
  refine T.D__law_turned.F.ok sc__law_turned (fun vs H Q E h => ?_) (fun cdv A outer s H vs Q E hr h => ?_)
  · obtain ⟨G, size, row, ds, v, u, rfl, _⟩ := h; rfl
  · obtain ⟨G, size, row, ds, v, u, rfl, e, hrow, hds, ⟨hs, hl⟩, q⟩ := h
    obtain ⟨a, rfl, hq⟩ := dp_ints hrow
    obtain ⟨b, ys, rfl, hq2, ha2⟩ := dp_list hds
    have s : S K G H [] [] G H := S.start e (fun _ h => nomatch h)
    refine ⟨_, (pss_cons (ps_set (i := 3) sc__law_turned.nd rfl (.inl rfl) (pe_callTy (T := "list") call_list_of (by rfl) T.z_list (by decide +kernel) (pa_cons (pv 1) pa_nil)))
    (pss_cons (ps_for PassesOwn.never rfl (pi_list (pv 2)) ((pg_tup rfl (pgs_cons (pg_name (i := 4) sc__law_turned.nd rfl (Or.inl rfl)) (pgs_cons (pg_name (i := 5) sc__law_turned.nd rfl (Or.inl rfl)) (pgs_cons (pg_name (i := 6) sc__law_turned.nd rfl (Or.inl rfl)) pgs_nil))))) (pss_cons (ps_if (PW.pt (pw_or (pt_not (pt_chain3 op_le op_lt op_le pe_int (pv 4) (pv 5) (pe_callB (id := "len") (r := rLen K) call_lenK (by rfl) T.z_len PySem.boot_len (pa_cons (pv 1) pa_nil)))) (pw_or1 (pt_cmpR op_eq (pv 6) pe_int (nomark _))))) (pss_one (ps_ret pe_non)) pss_nil)
      (pss_one (ps_for PassesOwn.never rfl (pi_range2 (by rfl) T.z_range (pa_cons (pv 4) (pa_cons (pv 5) pa_nil))) (pg_name (i := 7) sc__law_turned.nd rfl (Or.inl rfl)) (pss_one (ps_asg (pe_op op_mod (pe_op op_add (pe_ix (r := rIxL K) ix_list (pv 3) (pv 7) (fun _ _ => rfl)) (pv 6)) (pv 0)) (pg_sub (pv 3) (pv 7) set_list)))))))
    (pss_one (ps_ret (pv 3))))), ?_⟩
    refine ⟨.ref a, rfl, a, _, rfl, .inl (e.seq hq), fun F hF => ?_⟩
    have s1 := s.new (o := .lst (row.map V.int)) hF
    -- the rows behind the first deeds
    refine ⟨.ref b, rfl, b, rfl, ⟨_, s1.same.seq hq2⟩, for_wk (wk_list hq2 ha2) (fun i σ G1 H1 => ∃ y4 y5 y6 y7 xs, σ = [some (.int size), some (.ref a), some (.ref b), some (.ref F), y4, y5, y6, y7] ∧
        S K G H [] [(F, .lst (xs.map V.int))] G1 H1 ∧ xs.length = row.length ∧ lawTurned size row ds = lawGo size row.length xs (ds.drop i))
      ⟨_, none, none, none, none, row, rfl, s1, rfl, rfl⟩ (fun i σ G1 H1 ⟨_, _, _, _, _, e1, s1, _⟩ => ⟨s1.gr.g, s1.same⟩) (fun i d x σ G1 H1 G2 H2 hi ⟨y4, y5, y6, y7, xs, e1, s1, hxl, hgo⟩ g2 hy hx => ?_) (fun σ G1 H1 ⟨y4, y5, y6, y7, xs, e1, s1, hxl, hgo⟩ => ?_)⟩
    · subst e1
      obtain ⟨t, ht, rfl⟩ := map_get hy
      obtain ⟨p, rfl, hp⟩ := dp_d3 hx
      have s2 := s1.grow g2
      have hp2 := Same.tup s2.same hp
      have ed : ds.drop i = t :: ds.drop (i + 1) := by
        obtain ⟨h1, h2⟩ := List.getElem?_eq_some_iff.mp ht
        rw [List.drop_eq_getElem_cons h1, h2]
      rw [ed] at hgo
      unfold lawGo at hgo
      refine ⟨p, _, rfl, hp2, rfl, _, _, rfl, _, _, rfl, _, _, rfl, rfl, ?_⟩
      obtain ⟨f, en, st⟩ := t
      have hlr : (((row.map V.int).length : Nat) : Int) = (row.length : Int) := by rw [List.length_map]
      have bad : ∀ (D : Bool), isDeed row.length (f, en, st) = false → Q .non H2 := fun _ hb => by
        rw [hb] at hgo
        rw [hgo] at q
        exact Rt.out q s2 .non
      -- if not 0 <= first < end <= len(..) or steps == 0
      refine ⟨_, rfl, 0, f, rfl, rfl, _, rfl, ?_⟩
      by_cases h1 : 0 ≤ f
      · rw [decide_eq_true h1]
        refine ⟨_, rfl, f, en, rfl, rfl, _, rfl, ?_⟩
        by_cases h2 : f < en
        · rw [decide_eq_true h2]
          refine ⟨.ref a, rfl, a, _, rfl, .inl (s2.same.seq (s2.gr.g.seq hq)), en, _, rfl, rfl, _, rfl, ?_⟩
          rw [hlr]
          by_cases h3 : en ≤ (row.length : Int)
          · rw [decide_eq_true h3]
            refine ⟨_, rfl, rfl, _, rfl, ?_⟩
            by_cases h4 : st = 0
            · subst h4
              exact bad true (by unfold isDeed; simp)
            · have e4 : decide (V.int st = V.int 0) = false := by simp [h4]
              rw [e4]
              have hid : isDeed row.length (f, en, st) = true := isDeed_iff.mpr ⟨h1, h2, h3, h4⟩
              rw [hid] at hgo
              -- for place in range(first, end)
              refine ⟨_, rfl, _, rfl, f, en, rfl, ⟨by omega, by omega, by omega, by omega⟩, for_wk (wk_rng (K := K) (G := G2)) (fun k σ G3 H3 => ∃ y7, σ = [some (.int size), some (.ref a), some (.ref b), some (.ref F), some (.int f), some (.int en), some (.int st), y7] ∧ Same G2 G3 ∧
                  S K G H [] [(F, .lst ((turnRange size st xs f.toNat k).map V.int))] G3 H3)
                ⟨_, _, rfl, Same.refl _, s2⟩ (fun k σ G3 H3 ⟨y7, e1, e3, s3⟩ => ⟨e3, s3.same⟩) (fun k d x σ G3 H3 G4 H4 hk ⟨y7, e1, e3, s3⟩ g4 hy hx => ?_) (fun σ G3 H3 ⟨y7, e1, e3, s3⟩ => ?_)⟩
              · subst e1
                subst hy
                cases dp_int hx
                have s4 := s3.grow g4
                have hlt := turnRange_len size st xs f.toNat k
                have ef : (f + (k : Int)).toNat = f.toNat + k := by omega
                have hg : (turnRange size st xs f.toNat k).getD (f.toNat + k) 0 = xs.getD (f.toNat + k) 0 := getD_take (by omega)
                refine ⟨.ref F, rfl, _, rfl, F, _, _, _, rfl, rfl, SqL.of (s4.o 0 rfl), at_int (i := f + (k : Int)) (by omega) (by omega), _, rfl, _, _, rfl, rfl, _, rfl, _, _, rfl, rfl, hs, .ref F, rfl, _, rfl, F, _, _, _, rfl, rfl, s4.o 0 rfl, ixN_nn (i := f + (k : Int)) (by omega) (by rw [List.length_map]; omega), ?_⟩
                rw [ef]
                have s5 := s4.put 0 rfl (.lst (((turnRange size st xs f.toNat k).map V.int).set (f.toNat + k) (.int (((turnRange size st xs f.toNat k).getD (f.toNat + k) 0 + st) % size))))
                rw [int_set] at s5
                refine ⟨G4, _, rfl, e3.trans g4.g, ?_⟩
                show S K G H [] [(F, .lst (((turnRange size st xs f.toNat k).set (f.toNat + k) (((turnRange size st xs f.toNat k).getD (f.toNat + k) 0 + st) % size)).map V.int))] G4 (upd H4 F (.lst (((turnRange size st xs f.toNat k).map V.int).set (f.toNat + k) (.int (((turnRange size st xs f.toNat k).getD (f.toNat + k) 0 + st) % size)))))
                rw [int_set]
                exact s5
              · subst e1
                refine ⟨G3, _, _, _, _, turnOne size xs (f, en, st), rfl, s3, ?_, ?_⟩
                · rw [turnOne_len]; exact hxl
                · rw [hgo]; simp
          · rw [decide_eq_false h3]
            exact bad true (by unfold isDeed; simp [h3])
        · rw [decide_eq_false h2]
          exact ⟨_, rfl, bad true (by unfold isDeed; simp [h2])⟩
      · rw [decide_eq_false h1]
        exact ⟨_, rfl, bad true (by unfold isDeed; simp [h1])⟩
    · subst e1
      rw [List.length_map, List.drop_of_length_le (Nat.le_refl _)] at hgo
      rw [hgo] at q
      exact ⟨_, rfl, Rt.out q (s1.give (dpAll_ints xs)) ((s1.give (dpAll_ints xs)).g 0 rfl)⟩
end Dial
namespace Dial
open PySem PySem.Spec PyProof.Rows L2 Dr DM
variable {P : Program} {w : World} {K : PySem.W.Frag} {mg : Str → Option Value} {base : Heap}
/-! _law_deeds -/
def sp__law_deeds (K : PySem.W.Frag) : Sp := fun vs H Q _ => ∃ (G : Hp) (ns : List Int) (v : V) (many : Nat), vs = [v, .int many] ∧ Same G H ∧ Dp K G v (dI ns) ∧ (many ≤ 1000 ∧ ns.length ≤ 63 ∧ ∀ z ∈ ns, Builtin.Int.intBits z ≤ 1048576) ∧ RtL K G H ((lawDeeds ns many).map d3) Q
theorem ok__law_deeds (T : Txt K mg) : FnOk P w K mg base CX0 1 T.f__law_deeds T.fd__law_deeds ["_law_script", "_law_many"] (sp__law_deeds K) := by
  refine T.D__law_deeds.F.ok sc__law_deeds (fun vs H Q E h => ?_) (fun cdv A outer s H vs Q E hr h => ?_)
  · obtain ⟨G, ns, v, many, rfl, _⟩ := h; rfl
  · obtain ⟨G, ns, v, many, rfl, e, hd, ⟨hm, hl, hb⟩, q⟩ := h
    obtain ⟨a, rfl, hq⟩ := dp_ints hd
    have s : S K G H [] [] G H := S.start e (fun _ h => nomatch h)
    refine ⟨_, (pss_cons (ps_set (i := 2) sc__law_deeds.nd rfl (.inl rfl) (pe_lst pa_nil))
    (pss_cons (ps_for PassesOwn.never rfl (pi_enum (by rfl) T.z_enumerate (pa_cons (pe_ifExp (pt_cmpR op_gt (pv 1) pe_int (nomark _)) (pv 0) (pe_lst pa_nil)) pa_nil)) ((pg_tup rfl (pgs_cons (pg_name (i := 3) sc__law_deeds.nd rfl (Or.inl rfl)) (pgs_cons (pg_name (i := 4) sc__law_deeds.nd rfl (Or.inl rfl)) pgs_nil)))) (pss_cons (ps_set (i := 5) sc__law_deeds.nd rfl (.inl rfl) (pe_op op_mod (pe_op op_fdivW (pv 4) pe_int) (pv 1)))
      (pss_cons (ps_set (i := 6) sc__law_deeds.nd rfl (.inl rfl) (pe_op op_add (pe_op op_add (pv 5) pe_int) (pe_op op_mod (pe_op op_fdivW (pv 4) pe_int) (pe_op op_sub (pv 1) (pv 5)))))
      (pss_cons (ps_set (i := 7) sc__law_deeds.nd rfl (.inl rfl) (pe_ix (r := rIxT K) ix_tup (pe_tup (pa_cons (pe_op op_add pe_int (pe_op op_mod (pe_op op_fdivW (pv 4) pe_int) pe_int)) (pa_cons (pe_op op_sub (pe_un un_neg pe_int) (pe_op op_mod (pe_op op_fdivW (pv 4) pe_int) pe_int)) (pa_cons (pv 4) (pa_cons (pe_op op_sub (pe_un un_neg pe_int) (pe_op op_mulB (pe_op op_add (pv 4) (pv 3)) (pe_op op_add (pv 4) (pv 3)))) pa_nil))))) (pe_op op_mod (pv 4) pe_int) (fun _ _ => rfl)))
      (pss_one (ps_if (pt_cmpR op_ne (pv 7) pe_int (nomark _)) (pss_one (ps_expr (pe_bm PySem.F.plainAttrs_list PySem.F.slot_list_append PySem.F.type_list_append mt_append (pv 2) (pa_cons (pe_tup (pa_cons (pv 5) (pa_cons (pv 6) (pa_cons (pv 7) pa_nil)))) pa_nil)))) pss_nil))))))
    (pss_one (ps_ret (pv 2))))), ?_⟩
    refine ⟨Nat.zero_le _, fun F hF => ?_⟩
    have s1 := s.new (o := .lst []) hF
    refine ⟨_, rfl, _, _, rfl, rfl, _, rfl, ?_⟩
    by_cases h0 : (0 : Int) < many
    · rw [decide_eq_true h0]
      have el : lawDeeds ns many = deedsFrom many 0 ns := by unfold lawDeeds; rw [if_pos h0]
      rw [el] at q
      refine ⟨.ref a, rfl, a, _, rfl, s1.same.seq hq, for_wk (wk_enum hq (dpAll_ints ns)) (fun i σ G1 H1 => ∃ y3 y4 y5 y6 y7 xs vs, σ = [some (.ref a), some (.int many), some (.ref F), y3, y4, y5, y6, y7] ∧
          S K G H [] [(F, .lst vs)] G1 H1 ∧ DpAll K G1 vs (xs.map d3) ∧ xs.length ≤ i ∧ deedsFrom many 0 ns = xs ++ deedsFrom many i (ns.drop i))
        ⟨_, none, none, none, none, none, [], [], rfl, s1, .nil, Nat.le_refl _, rfl⟩ (fun i σ G1 H1 ⟨_, _, _, _, _, _, _, e1, s1, _⟩ => ⟨s1.gr.g, s1.same⟩) (fun i d x σ G1 H1 G2 H2 hi ⟨y3, y4, y5, y6, y7, xs, vs, e1, s1, hv, hxl, hgo⟩ g2 hy hx => ?_) (fun σ G1 H1 ⟨y3, y4, y5, y6, y7, xs, vs, e1, s1, hv, hxl, hgo⟩ => ?_)⟩
      · subst e1
        obtain ⟨d1, hd1, rfl⟩ := hy
        obtain ⟨c, hc, rfl⟩ := map_get hd1
        obtain ⟨p, rfl, hp⟩ := dp_pairI hx
        have s2 := s1.grow g2
        have hv2 := Dp.monoAll g2.g _ _ hv
        have ed : ns.drop i = c :: ns.drop (i + 1) := by
          obtain ⟨h1, h2⟩ := List.getElem?_eq_some_iff.mp hc
          rw [List.drop_eq_getElem_cons h1, h2]
        rw [ed, deedsFrom_cons] at hgo
        have hil : i < 63 := by rw [List.length_map] at hi; omega
        refine ⟨p, _, rfl, Same.tup s2.same hp, rfl, _, _, rfl, _, _, rfl, rfl, ?_⟩
        have a1 : 0 ≤ c / 3 % (many : Int) := Int.emod_nonneg _ (by omega)
        have a2 : c / 3 % (many : Int) < many := Int.emod_lt_of_pos _ (by omega)
        refine ⟨_, rfl, _, _, rfl, rfl, div_ok (by decide) (by decide), _, rfl, _, _, rfl, rfl, (by show (0 : Int) < many; omega), ?_⟩
        refine ⟨_, rfl, _, _, rfl, rfl, _, rfl, _, _, rfl, rfl, div_ok (by decide) (by decide), _, rfl, _, rfl, _, _, rfl, rfl, _, _, rfl, rfl, (by show (0 : Int) < (many : Int) - c / 3 % (many : Int); omega), _, _, rfl, rfl, ?_⟩
        have hbc := hb c (List.mem_of_getElem? hc)
        have hmul : IntMulOk (c + (i : Int)) (c + (i : Int)) := by
          have hk : Builtin.Int.intBits ((i : Nat) : Int) ≤ 64 := intBits_cast_le (small3 (by omega))
          have h2 := intBits_add_le hbc hk
          exact IntMulOk.of_le h2 h2 (by decide)
        refine ⟨_, rfl, _, _, rfl, rfl, div_ok (by decide) (by decide), _, _, rfl, rfl, (by show (0 : Int) < 9; decide), _, _, rfl, rfl, _, rfl, _, rfl, _, _, rfl, rfl, div_ok (by decide) (by decide), _, _, rfl, rfl, (by show (0 : Int) < 9; decide), _, _, rfl, rfl, _, rfl, _, rfl,
          _, rfl, _, rfl, _, _, rfl, rfl, _, rfl, _, rfl, _, _, rfl, rfl, _, _, rfl, rfl, hmul, _, _, rfl, rfl, small3 (by show 4 ≤ 100000; decide), fun p2 hp2 => ?_⟩
        have s3 := S.tupO (o := .tup ((deedSteps c i).map V.int)) s2 hp2
        refine ⟨_, rfl, _, _, rfl, rfl, (by show (0 : Int) < 4; decide), p2, _, _, _, rfl, rfl, .inl (.inl upd_same), at_int (C := deedSteps c i) (i := c % 4) (by omega) (by show c % 4 < 4; omega), ?_⟩
        -- if steps != 0
        have hst : (deedOf many i c).2.2 = (deedSteps c i).getD (c % 4).toNat 0 := rfl
        refine ⟨_, rfl, rfl, _, rfl, ?_⟩
        by_cases hz : (deedSteps c i).getD (c % 4).toNat 0 = 0
        · rw [if_pos (hst.trans hz)] at hgo
          have e4 : (!decide (V.int ((deedSteps c i).getD (c % 4).toNat 0) = V.int 0)) = false := by rw [hz]; simp
          rw [e4]
          exact ⟨G2, _, _, _, _, _, xs, vs, rfl, s3, hv2, by omega, hgo⟩
        · rw [if_neg (fun z => hz (hst.symm.trans z))] at hgo
          have e4 : (!decide (V.int ((deedSteps c i).getD (c % 4).toNat 0) = V.int 0)) = true := by rw [decide_eq_false (fun z => hz (V.int.inj z))]; rfl
          rw [e4]
          refine ⟨_, rfl, .inl ⟨rfl, _, SqL.of (s3.o 0 rfl)⟩, _, rfl, _, rfl, _, rfl, small3 (by show 3 ≤ 100000; decide), fun t ht => ?_⟩
          have g4 := Gr.new (o := .tup [.int (deedOf many i c).1, .int (deedOf many i c).2.1, .int (deedOf many i c).2.2]) s3.same ht
          have s4 := s3.grow g4
          have hvl := DpAll.len hv
          rw [List.length_map] at hvl
          refine ⟨F, _, _, rfl, rfl, s4.o 0 rfl, small (by omega), ?_⟩
          have s5 := s4.put 0 rfl (.lst (vs ++ [.ref t]))
          refine ⟨_, _, _, _, _, _, xs ++ [deedOf many i c], _, rfl, s5, ?_, ?_, ?_⟩
          · rw [List.map_append]
            exact DpAll.append (Dp.monoAll g4.g _ _ hv2) (DpAll.one (.tup (.inl (.inl upd_same)) (.cons (.int _) (.cons (.int _) (.cons (.int _) .nil)))))
          · rw [List.length_append, List.length_singleton]; omega
          · rw [List.append_assoc]; exact hgo
      · subst e1
        rw [List.length_map, List.drop_of_length_le (Nat.le_refl _)] at hgo
        have e3 : deedsFrom many 0 ns = xs := by rw [hgo]; unfold deedsFrom; simp
        rw [e3] at q
        exact ⟨_, rfl, RtL.out q s1 hv⟩
    · rw [decide_eq_false h0]
      have el : lawDeeds ns many = [] := by unfold lawDeeds; rw [if_neg h0]
      rw [el] at q
      refine ⟨Nat.zero_le _, fun p hp => ?_⟩
      have s2 := s1.lst (xs := []) (ds := []) hp .nil
      obtain ⟨p', e4, hp4⟩ := dp_ints (ns := []) (s2.g 0 rfl)
      cases e4
      refine ⟨p, _, rfl, s2.same.seq hp4, for_wk (wk_enum hp4 (dpAll_ints [])) (fun i σ G1 H1 => i = 0 ∧ σ = [some (.ref a), some (.int many), some (.ref F), none, none, none, none, none] ∧ Same _ G1 ∧ S K G H [] [(F, .lst [])] G1 H1)
        ⟨_, rfl, rfl, Same.refl _, s2.less (fun _ h => nomatch h)⟩ (fun i σ G1 H1 ⟨_, e1, e3, s1⟩ => ⟨e3, s1.same⟩) (fun i d x σ G1 H1 G2 H2 hi _ g2 hy hx => absurd hi (Nat.not_lt_zero _)) (fun σ G1 H1 ⟨_, e1, e3, s1⟩ => ?_)⟩
      subst e1
      exact ⟨_, rfl, RtL.out q s1 .nil⟩
end Dial
namespace Dial
open PySem PySem.Spec PyProof.Rows L2 Dr DM
variable {P : Program} {w : World} {K : PySem.W.Frag} {mg : Str → Option Value} {base : Heap}
/-! law -/
theorem cut_ints_hi (ns : List Int) (k : Nat) : cutV (ns.map V.int) none (some (k : Int)) = (ns.take k).map V.int := by rw [cut_hi, List.map_take]
theorem cut_last (ns : List Int) (z : Int) : cutV (ns.map V.int ++ [.int z]) none (some (-1)) = ns.map V.int := by
  unfold cutV
  rw [HT.sIx_none]
  have e : HT.sIx (ns.map V.int ++ [V.int z]).length (ns.map V.int ++ [V.int z]).length (some (-1)) = ns.length := by
    unfold HT.sIx
    dsimp only
    rw [if_pos (by decide), List.length_append, List.length_map]
    show ((-1 : Int) + ((ns.length + 1 : Nat) : Int)).toNat = ns.length
    omega
  rw [e]
  show ((ns.map V.int ++ [V.int z]).drop 0).take (ns.length - 0) = ns.map V.int
  rw [List.drop_zero, Nat.sub_zero]
  exact List.take_left' (List.length_map ..)
def sp_law (K : PySem.W.Frag) : Sp := fun vs H Q _ => ∃ (a : Addr) (ns : List Int), vs = [.ref a] ∧ SqL K H a (ns.map V.int) ∧ (ns.length ≤ 63 ∧ ∀ z ∈ ns, Builtin.Int.intBits z ≤ 1048576) ∧ ∀ H', Q (.bl true) H'
theorem sp_law_of {H : Hp} {a : Addr} {ns : List Int} (hl : ns.length ≤ 63) (hb : ∀ z ∈ ns, Builtin.Int.intBits z ≤ 1048576) (hS : SqL K H a (ns.map V.int)) : sp_law K [.ref a] H (fun v _ => v = .bl true) fun _ _ _ => False := ⟨a, ns, rfl, hS, ⟨hl, hb⟩, fun _ => rfl⟩
/-- one turn's facts, plain -/
theorem turn_ok {size : Int} {row : List Int} {ds : List Deed} (hin : InR size row) (hv : ∀ d ∈ ds, Okd row.length d) : optI (lawTurned size row ds) = dI (turnedBy size row ds) := by
  rw [lawTurned_ok hin hv]; rfl
theorem hand_in : InR 10 [9, 0, 5] := by unfold InR; decide
theorem hand_ok : ∀ d ∈ ([(0, 2, 3), (1, 3, -14)] : List Deed), Okd 3 d := by unfold Okd; decide
theorem ok_law (T : Txt K mg) : FnOk P w K mg base CX0 4 T.f_law T.fd_law ["_law_script"] (sp_law K) := by
  refine T.D_law.F.ok sc_law (fun vs H Q E h => ?_) (fun cdv A outer s H vs Q E hr h => ?_)
  · obtain ⟨a, ns, rfl, _⟩ := h; rfl
  · obtain ⟨a, ns, rfl, hq, ⟨hl, hb⟩, q⟩ := h
    have s0 : S K H H [] [] H H := S.start (Same.refl _) (fun _ h => nomatch h)
    refine ⟨_, (pss_cons (ps_set (i := 0) sc_law.nd rfl (.inl rfl) (pe_slice sl_list (pv 0) po_none (po_some pe_int)))
    (pss_cons (ps_set (i := 1) sc_law.nd rfl (.inl rfl) (pe_call (ok__law_size T) (hr.mono (by decide)) (by rfl) T.D__law_size.g T.D__law_size.F.kp T.D__law_size.b .nil pass0 (pa_cons (pv 0) pa_nil)))
    (pss_cons (ps_set (i := 2) sc_law.nd rfl (.inl rfl) (pe_call (ok__law_row T) (hr.mono (by decide)) (by rfl) T.D__law_row.g T.D__law_row.F.kp T.D__law_row.b .nil pass0 (pa_cons (pv 0) (pa_cons (pv 1) (pa_cons pe_int pa_nil)))))
    (pss_cons (ps_set (i := 3) sc_law.nd rfl (.inl rfl) (pe_call (ok__law_deeds T) (hr.mono (by decide)) (by rfl) T.D__law_deeds.g T.D__law_deeds.F.kp T.D__law_deeds.b .nil pass0 (pa_cons (pe_slice sl_list (pv 0) po_none (po_some pe_int)) (pa_cons (pe_callB (id := "len") (r := rLen K) call_lenK (by rfl) T.z_len PySem.boot_len (pa_cons (pv 2) pa_nil)) pa_nil))))
    (pss_cons (ps_set (i := 4) sc_law.nd rfl (.inl rfl) (pe_op op_fdivW (pe_callB (id := "len") (r := rLen K) call_lenK (by rfl) T.z_len PySem.boot_len (pa_cons (pv 3) pa_nil)) pe_int))
    (pss_cons (ps_for PassesOwn.never rfl (pi_list (pe_lst (pa_cons (pv 3) (pa_cons (pe_slice sl_list (pv 3) po_none (po_some (pv 4))) (pa_cons (pe_lst pa_nil) pa_nil))))) (pg_name (i := 5) sc_law.nd rfl (Or.inl rfl)) (pss_cons (ps_set (i := 6) sc_law.nd rfl (.inl rfl) (pe_lst (pa_cons (pe_callTy (T := "list") call_list_of (by rfl) T.z_list (by decide +kernel) (pa_cons (pv 2) pa_nil)) (pa_cons (pe_callTy (T := "list") call_list_of (by rfl) T.z_list (by decide +kernel) (pa_cons (pv 5) pa_nil)) pa_nil))))
      (pss_cons (ps_set (i := 7) sc_law.nd rfl (.inl rfl) (pe_call (ok_turned T) (hr.mono (by decide)) (by rfl) T.D_turned.g T.D_turned.F.kp T.D_turned.b .nil pass0 (pa_cons (pv 1) (pa_cons (pe_ix (r := rIxL K) ix_list (pv 6) pe_int (fun _ _ => rfl)) (pa_cons (pe_ix (r := rIxL K) ix_list (pv 6) pe_int (fun _ _ => rfl)) pa_nil)))))
      (pss_cons (ps_if (PW.pt (pw_or (pt_not (pt_val (pe_call (ok__law_numbers T) (hr.mono (by decide)) (by rfl) T.D__law_numbers.g T.D__law_numbers.F.kp T.D__law_numbers.b .nil pass0 (pa_cons (pv 7) pa_nil)))) (pw_or (pt_cmpR (op_neD hr.units) (pv 7) (pe_call (ok__law_turned T) (hr.mono (by decide)) (by rfl) T.D__law_turned.g T.D__law_turned.F.kp T.D__law_turned.b .nil pass0 (pa_cons (pv 1) (pa_cons (pv 2) (pa_cons (pv 5) pa_nil)))) (nomark _)) (pw_or1 (pt_cmpR (op_neD hr.units) (pv 6) (pe_lst (pa_cons (pv 2) (pa_cons (pv 5) pa_nil))) (nomark _)))))) (pss_one (ps_ret pe_bl)) pss_nil)
      (pss_cons (ps_setLc (i := 8) (own := [("_law_first", 9), ("_law_end", 10), ("_law_steps", 11)]) (g := gTup _ 3 (gCons (gName 9) (gCons (gName 10) (gCons (gName 11) (gNil))))) (tt := tYes) rfl sc_law.nd rfl rfl (sw_true rfl rfl rfl (by decide +kernel)) (pi_list (pv 5)) (blkOk_by (own := [("_law_first", 9), ("_law_end", 10), ("_law_steps", 11)]) (N := N_law) (sc := defScope s_law) (by decide +kernel)) (fun _ _ _ _ _ => (pg_tup rfl (pgs_cons (pg_name (i := 9) sc_law.nd rfl (Or.inl rfl)) (pgs_cons (pg_name (i := 10) sc_law.nd rfl (Or.inl rfl)) (pgs_cons (pg_name (i := 11) sc_law.nd rfl (Or.inl rfl)) pgs_nil))))) (fun _ _ _ _ _ => pts_nil) (fun _ _ _ _ _ => (pe_tup (pa_cons (pv 9) (pa_cons (pv 10) (pa_cons (pe_un un_neg (pv 11)) pa_nil))))))
      (pss_cons (ps_if (pt_cmpR (op_neD hr.units) (pe_call (ok_turned T) (hr.mono (by decide)) (by rfl) T.D_turned.g T.D_turned.F.kp T.D_turned.b .nil pass0 (pa_cons (pv 1) (pa_cons (pv 7) (pa_cons (pv 8) pa_nil)))) (pv 2) (nomark _)) (pss_one (ps_ret pe_bl)) pss_nil)
      (pss_cons (ps_expr (pe_bm PySem.F.plainAttrs_list PySem.F.slot_list_append PySem.F.type_list_append mt_append (pv 7) (pa_cons pe_int pa_nil)))
      (pss_one (ps_if (pt_cmpR (op_neD hr.units) (pe_call (ok_turned T) (hr.mono (by decide)) (by rfl) T.D_turned.g T.D_turned.F.kp T.D_turned.b .nil pass0 (pa_cons (pv 1) (pa_cons (pe_ix (r := rIxL K) ix_list (pv 6) pe_int (fun _ _ => rfl)) (pa_cons (pe_ix (r := rIxL K) ix_list (pv 6) pe_int (fun _ _ => rfl)) pa_nil)))) (pe_slice sl_list (pv 7) po_none (po_some (pe_un un_neg pe_int))) (nomark _)) (pss_one (ps_ret pe_bl)) pss_nil)))))))))
    (pss_cons (ps_if (pt_cmpR (op_neD hr.units) (pe_call (ok_turned T) (hr.mono (by decide)) (by rfl) T.D_turned.g T.D_turned.F.kp T.D_turned.b .nil pass0 (pa_cons (pv 1) (pa_cons (pe_call (ok_turned T) (hr.mono (by decide)) (by rfl) T.D_turned.g T.D_turned.F.kp T.D_turned.b .nil pass0 (pa_cons (pv 1) (pa_cons (pv 2) (pa_cons (pe_slice sl_list (pv 3) (po_some (pv 4)) po_none) pa_nil)))) (pa_cons (pe_slice sl_list (pv 3) po_none (po_some (pv 4))) pa_nil)))) (pe_call (ok_turned T) (hr.mono (by decide)) (by rfl) T.D_turned.g T.D_turned.F.kp T.D_turned.b .nil pass0 (pa_cons (pv 1) (pa_cons (pv 2) (pa_cons (pv 3) pa_nil)))) (nomark _)) (pss_one (ps_ret pe_bl)) pss_nil)
    (pss_one (ps_ret (pe_and (pe_cmpR (op_eqD hr.units) (pe_call (ok_turned T) (hr.mono (by decide)) (by rfl) T.D_turned.g T.D_turned.F.kp T.D_turned.b .nil pass0 (pa_cons pe_int (pa_cons (pe_lst (pa_cons pe_int (pa_cons pe_int (pa_cons pe_int pa_nil)))) (pa_cons (pe_lst (pa_cons (pe_tup (pa_cons pe_int (pa_cons pe_int (pa_cons pe_int pa_nil)))) (pa_cons (pe_tup (pa_cons pe_int (pa_cons pe_int (pa_cons (pe_un un_neg pe_int) pa_nil)))) pa_nil))) pa_nil)))) (pe_lst (pa_cons pe_int (pa_cons pe_int (pa_cons pe_int pa_nil)))) (nomark _)) (pe_one (pe_cmpR (op_eqD hr.units) (pe_call (ok_turned T) (hr.mono (by decide)) (by rfl) T.D_turned.g T.D_turned.F.kp T.D_turned.b .nil pass0 (pa_cons pe_int (pa_cons (pe_lst pa_nil) (pa_cons (pe_lst pa_nil) pa_nil)))) (pe_lst pa_nil) (nomark _))))))))))))), ?_⟩
    -- script[:63]
    refine ⟨.ref a, rfl, 63, rfl, a, _, rfl, hq, fun p hp => ?_⟩
    rw [show (63 : Int) = ((63 : Nat) : Int) from rfl, cut_ints_hi, List.take_of_length_le hl]
    have s1 := s0.lst hp (dpAll_ints ns)
    -- the size, the row
    refine ⟨_, rfl, _, ns, .ref p, rfl, s1.same, s1.g 0 rfl, fun G2 H2 g2 => ?_⟩
    have s2 := s1.grow g2
    obtain ⟨hz2, hz67⟩ := lawSize_ok ns
    generalize lawSize ns = size at hz2 hz67
    refine ⟨.ref p, rfl, _, rfl, G2, ns, .ref p, size, 0, rfl, s2.same, s2.g 0 rfl, ⟨hz2, hz67, by decide, by decide, hl⟩, fun r xr G3 H3 g3 h0 hg hh hd => ?_⟩
    have s3 := (s2.got g3 h0 hg hh).give hd
    have hrl := lawRow_len1 (size := size) (by_ := 0) hl
    have hin : InR size (lawRow ns size 0) := lawRow_in hz2
    generalize lawRow ns size 0 = row at s3 hrl hin
    -- the deeds
    obtain ⟨p', e3, hp3⟩ := dp_ints (s3.g 1 rfl)
    cases e3
    refine ⟨.ref p, rfl, 20, rfl, p, _, rfl, s3.same.seq hp3, fun c hc => ?_⟩
    rw [show (20 : Int) = ((20 : Nat) : Int) from rfl, cut_ints_hi]
    have s4 := s3.lst hc (dpAll_ints (ns.take 20))
    obtain ⟨r', e4, hr4⟩ := dp_ints (s4.g 1 rfl)
    cases e4
    refine ⟨.ref r, rfl, r, _, rfl, .inl (s4.same.seq hr4), ?_⟩
    rw [List.length_map]
    refine ⟨_, ns.take 20, .ref c, row.length, rfl, s4.same, s4.g 0 rfl, ⟨by omega, by rw [List.length_take]; omega, fun z hz => hb z (List.mem_of_mem_take hz)⟩, fun d xd G5 H5 g5 h0 hg hh hd => ?_⟩
    have s5 := (s4.got g5 h0 hg hh).give hd
    have hdl : (lawDeeds (ns.take 20) row.length).length ≤ 63 := Nat.le_trans (lawDeeds_len _ _) (by rw [List.length_take]; omega)
    have hv : ∀ d ∈ lawDeeds (ns.take 20) row.length, Okd row.length d := lawDeeds_ok
    generalize lawDeeds (ns.take 20) row.length = ds at s5 hdl hv
    have s6 : S K H H [(.ref d, dT ds), (.ref r, dI row)] [] _ H5 := s5.sel [0, 2]
    clear s5 s4 s3 s2 s1 hd
    obtain ⟨d', xs, e6, hd6, hxs6⟩ := dp_list (s6.g 0 rfl)
    cases e6
    have hxl := DpAll.len hxs6
    rw [List.length_map] at hxl
    -- half
    refine ⟨_, rfl, d, _, rfl, .inl (s6.same.seq hd6), _, _, rfl, rfl, div_ok (by decide) (by decide), ?_⟩
    dsimp only
    have ehf : ((xs.length : Nat) : Int) / 2 = ((xs.length / 2 : Nat) : Int) := by omega
    rw [ehf]
    generalize xs.length / 2 = hf
    -- for some in [deeds, deeds[:half], []]
    refine ⟨.ref d, rfl, .ref d, rfl, _, rfl, _, rfl, d, _, rfl, s6.same.seq hd6, fun u hu => ?_⟩
    rw [cut_hi]
    have s7 := s6.lst hu (DpAll.take hf hxs6)
    refine ⟨Nat.zero_le _, fun n hn => ?_⟩
    have s8 := s7.lst (xs := []) (ds := []) hn .nil
    refine ⟨small3 (by show 3 ≤ 100000; decide), fun l hlN => ?_⟩
    have s9 := s8.lst hlN (.cons (s8.g 2 rfl) (.cons (s8.g 1 rfl) (.cons (s8.g 0 rfl) .nil)))
    have s10 : S K H H [(.ref d, dT ds), (.ref r, dI row)] [] _ _ := s9.sel [3, 4]
    obtain ⟨l', xl, e9, hl9, hxl9⟩ := dp_list (s9.g 0 rfl)
    cases e9
    have s11 := S.start s10.same s10.st
    refine ⟨l, rfl, ⟨_, s10.same.seq hl9⟩, for_wk (wk_list hl9 hxl9) (fun i σ G1 H1 => ∃ y5 y6 y7 y8, σ = [some (.ref p), some (.int size), some (.ref r), some (.ref d), some (.int hf), y5, y6, y7, y8, none, none, none] ∧
        S K _ _ [(.ref d, dT ds), (.ref r, dI row)] [] G1 H1)
      ⟨_, none, none, none, none, rfl, s11⟩ (fun i σ G1 H1 ⟨_, _, _, _, e1, s1⟩ => ⟨s1.gr.g, s1.same⟩) (fun i dd x σ G1 H1 G2 H2 hi ⟨y5, y6, y7, y8, e1, s1⟩ g2 hy hx => ?_) (fun σ G1 H1 ⟨y5, y6, y7, y8, e1, s1⟩ => ?_)⟩
    · subst e1
      -- which
      obtain ⟨so, hso, hvs, hsl⟩ : ∃ so : List Deed, dd = dT so ∧ (∀ d ∈ so, Okd row.length d) ∧ so.length ≤ 63 := by
        rcases i with _ | _ | _ | i
        · exact ⟨ds, (Option.some.inj hy).symm, hv, hdl⟩
        · refine ⟨ds.take hf, ?_, fun d hd => hv d (List.mem_of_mem_take hd), by rw [List.length_take]; omega⟩
          rw [← Option.some.inj hy]
          show PyData.list ((ds.map d3).take hf) = PyData.list ((ds.take hf).map d3)
          rw [List.map_take]
        · exact ⟨[], (Option.some.inj hy).symm, (fun _ h => nomatch h), Nat.zero_le _⟩
        · exact absurd hi (by show ¬ i + 1 + 1 + 1 < 3; omega)
      subst hso
      have t1 := (s1.grow g2).add hx
      have tok := turn_ok hin hvs
      have tback := turned_back hin hvs
      have tin := turnedBy_inR (size := size) (by omega) (row := row) (ds := so)
      have tlen := turnedBy_len size row so
      have nok : ∀ d ∈ negD so, Okd (turnedBy size row so).length d := by rw [tlen]; exact neg_ok hvs
      generalize hfnd : turnedBy size row so = fnd at tok tback tin tlen nok
      obtain ⟨r1, e, hr1⟩ := dp_ints (t1.g 2 rfl)
      cases e
      obtain ⟨so', xs1, e, hs1, hxs1⟩ := dp_list (t1.g 0 rfl)
      cases e
      -- handed = [list(row), list(some)]
      refine ⟨.ref r, rfl, r, _, rfl, .inl (t1.same.seq hr1), fun l1 hl1 => ?_⟩
      have t2 := t1.lst hl1 (dpAll_ints row)
      obtain ⟨so', xs2, e, hs2, hxs2⟩ := dp_list (t2.g 1 rfl)
      cases e
      refine ⟨_, rfl, _, _, rfl, .inl (t2.same.seq hs2), fun l2 hl2 => ?_⟩
      have t3 := t2.lst hl2 hxs2
      refine ⟨small3 (by show 2 ≤ 100000; decide), fun l3 hl3 => ?_⟩
      have t4 : S K _ _ [(.ref l3, .list [dI row, dT so]), (.ref so', dT so), (.ref d, dT ds), (.ref r, dI row)] [] _ _ := (t3.lst hl3 (.cons (t3.g 1 rfl) (.cons (t3.g 0 rfl) .nil))).sel [0, 3, 4, 5]
      obtain ⟨l3', xs3, e, hs3, hxs3⟩ := dp_list (t4.g 0 rfl)
      cases e
      cases hxs3 with
      | cons h31 hxs3 =>
      cases hxs3 with
      | cons h32 hxs3 =>
      cases hxs3
      -- found = turned(size, handed[0], handed[1])
      refine ⟨_, rfl, .ref l3, rfl, l3, _, 0, _, rfl, rfl, t4.same.seq hs3, rfl, .ref l3, rfl, l3, _, 1, _, rfl, rfl, t4.same.seq hs3, rfl, _, size, row, so, _, _, rfl, t4.same, h31, h32, ⟨hz2, by omega, hin, hvs⟩, fun f xf G5 H5 g5 h0 hg hh hd => ?_⟩
      rw [hfnd] at hd
      cases ints_dpAll hd
      clear hd
      have t5 := t4.got g5 h0 hg hh
      -- numbers(found)
      have t5g := t5.give (dpAll_ints fnd)
      refine ⟨.ref f, rfl, _, fnd, .ref f, rfl, t5g.same, t5g.g 0 rfl, by omega, fun G6 H6 g6 => ⟨true, rfl, ?_⟩⟩
      have t6 := t5.grow (Gr.back (t5.og 0 rfl) g6)
      -- found != law_turned(..)
      refine ⟨.ref f, rfl, _, rfl, .ref r, rfl, .ref so', rfl, _, size, row, so, _, _, rfl, t6.same, t6.g 3 rfl, t6.g 1 rfl, ⟨by omega, by omega⟩, fun v7 G7 H7 g7 hv7 => ?_⟩
      have t7 := (t6.grow g7).add hv7
      rw [tok] at t7
      refine ⟨dI fnd, dI fnd, ints_dp (SqL.of (t7.o 0 rfl)), t7.h 0 rfl, shaped_dI _, shaped_dI _, _, rfl, ?_⟩
      rw [eqv_dI, decide_eq_true rfl]
      -- handed != [row, some]
      refine ⟨.ref l3, rfl, .ref r, rfl, .ref so', rfl, small3 (by show 2 ≤ 100000; decide), fun l8 hl8 => ?_⟩
      have t8 := t7.lst hl8 (.cons (t7.g 4 rfl) (.cons (t7.g 2 rfl) .nil))
      have sh8 : PyData.canLay0 (.list [dI row, dT so]) = true ∧ PyData.depth (.list [dI row, dT so]) ≤ 3 := shp_list fun d hd => by
        rcases List.mem_cons.mp hd with e | hd
        · subst e; exact ⟨(shp_dI row).1, Nat.le_trans (shp_dI row).2 (by decide)⟩
        · rcases List.mem_singleton.mp hd with rfl
          exact shp_dT so
      refine ⟨.list [dI row, dT so], .list [dI row, dT so], t8.h 2 rfl, t8.h 0 rfl, shp_ok sh8, shp_ok sh8, _, rfl, ?_⟩
      rw [eqv_self sh8]
      have t9 : S K _ _ [(.ref l3, .list [dI row, dT so]), (.ref so', dT so), (.ref d, dT ds), (.ref r, dI row)] [(f, .lst (fnd.map V.int))] _ _ := t8.sel [2, 3, 4, 5]
      -- back
      obtain ⟨so'', xs9, e, hs9, hxs9⟩ := dp_list (t9.g 1 rfl)
      cases e
      refine ⟨_, rfl, _, rfl, ⟨_, t9.same.seq hs9⟩, fun D hD => lc_wk (wk_list hs9 hxs9) t9 hD (Same.refl _) (by rw [List.length_map]; exact small (by omega)) ((negD so).map d3) (by simp [negD]) (fun i d x G1 H1 hi hy s1 hx R k => ?_) (fun xs G1 H1 s1 hxs => ?_)⟩
      · obtain ⟨t, ht, rfl⟩ := map_get hy
        obtain ⟨p2, rfl, hp2⟩ := dp_d3 hx
        refine ⟨p2, _, rfl, Same.tup s1.same hp2, rfl, _, _, rfl, _, _, rfl, _, _, rfl, rfl, rfl, ?_⟩
        refine ⟨_, rfl, _, rfl, _, rfl, _, rfl, small3 (by show 3 ≤ 100000; decide), fun t2 ht2 => ?_⟩
        refine k _ _ _ (d3 (t.1, t.2.1, -t.2.2)) (Gr.new s1.same ht2) ?_ (.tup (.inl (.inl upd_same)) (.cons (.int _) (.cons (.int _) (.cons (.int _) .nil))))
        unfold negD
        rw [List.map_map, List.getElem?_map, ht]; rfl
      have t10 := s1.give hxs
      clear s1 hxs
      -- turned(size, found, back) != row
      have t10g : S K _ _ _ [] _ _ := S.give t10 (dpAll_ints fnd)
      refine ⟨_, rfl, .ref f, rfl, .ref D, rfl, _, size, fnd, negD so, _, _, rfl, t10g.same, t10g.g 0 rfl, t10g.g 1 rfl, ⟨hz2, by omega, tin, nok⟩, fun f2 xf2 G11 H11 g11 h0 hg hh hd => ?_⟩
      rw [tback] at hd
      cases ints_dpAll hd
      have g11b := Gr.back (t10.og 0 rfl) g11
      have t11 := t10.grow g11b
      have hg2 : del G11 f f2 = none := by
        by_cases z : f2 = f
        · subst z; exact del_same
        · rw [del_ne z]; exact hg
      have t12 := t10.got g11b h0 hg2 hh
      obtain ⟨r2, e, hr2⟩ := dp_ints (t12.g 4 rfl)
      cases e
      refine ⟨.ref r, rfl, dI row, dI row, ints_dp (SqL.of (t12.o 0 rfl)), t12.h 4 rfl, shaped_dI _, shaped_dI _, _, rfl, ?_⟩
      rw [eqv_dI, decide_eq_true rfl]
      -- found.append(0)
      have t13 := t12.drop
      refine ⟨.ref f, rfl, .inl ⟨rfl, _, SqL.of (t13.o 0 rfl)⟩, f, _, _, rfl, rfl, t13.o 0 rfl, small (by rw [List.length_map]; omega), ?_⟩
      have t14 := t13.put 0 rfl (.lst (fnd.map V.int ++ [.int 0]))
      -- turned(..) != found[:-1]
      obtain ⟨l3', xs3, e, hs3, hxs3⟩ := dp_list (t14.g 1 rfl)
      cases e
      cases hxs3 with
      | cons h31 hxs3 =>
      cases hxs3 with
      | cons h32 hxs3 =>
      cases hxs3
      refine ⟨_, rfl, .ref l3, rfl, l3, _, 0, _, rfl, rfl, t14.same.seq hs3, rfl, .ref l3, rfl, l3, _, 1, _, rfl, rfl, t14.same.seq hs3, rfl, _, size, row, so, _, _, rfl, t14.same, h31, h32, ⟨hz2, by omega, hin, hvs⟩, fun f5 xf5 G15 H15 g15 h0 hg hh hd => ?_⟩
      rw [hfnd] at hd
      cases ints_dpAll hd
      have t15 := t14.got g15 h0 hg hh
      refine ⟨.ref f, rfl, 1, rfl, -1, rfl, f, _, rfl, SqL.of (t15.o 1 rfl), fun l16 hl16 => ?_⟩
      rw [cut_last]
      have t16 := t15.lst hl16 (dpAll_ints fnd)
      refine ⟨dI fnd, dI fnd, ints_dp (SqL.of (t16.o 0 rfl)), t16.h 0 rfl, shaped_dI _, shaped_dI _, _, rfl, ?_⟩
      rw [eqv_dI, decide_eq_true rfl]
      exact ⟨_, _, _, _, _, rfl, (t16.only).sel [4, 5]⟩
    · subst e1
      obtain ⟨d', xs, e, hd1, hxs1⟩ := dp_list (s1.g 0 rfl)
      cases e
      -- turned(size, turned(size, row, deeds[half:]), deeds[:half])
      refine ⟨_, rfl, _, rfl, .ref r, rfl, .ref d, rfl, _, rfl, _, rfl, d, _, rfl, s1.same.seq hd1, fun u hu => ?_⟩
      rw [cut_lo]
      have t1 := s1.lst hu (DpAll.drop hf hxs1)
      rw [← List.map_drop] at t1
      have va : ∀ d ∈ ds.take hf, Okd row.length d := fun d hd => hv d (List.mem_of_mem_take hd)
      have vb : ∀ d ∈ ds.drop hf, Okd row.length d := fun d hd => hv d (List.mem_of_mem_drop hd)
      refine ⟨_, size, row, ds.drop hf, _, _, rfl, t1.same, t1.g 2 rfl, t1.g 0 rfl, ⟨hz2, by omega, hin, vb⟩, fun f2 xf2 G2 H2 g2 h0 hg hh hd => ?_⟩
      have t2 : S K _ _ [(.ref f2, dI (turnedBy size row (ds.drop hf))), (.ref d, dT ds), (.ref r, dI row)] [] _ _ := ((t1.got g2 h0 hg hh).give hd).sel [0, 2, 3]
      obtain ⟨d', xs, e, hd2, hxs2⟩ := dp_list (t2.g 1 rfl)
      cases e
      refine ⟨.ref d, rfl, _, rfl, _, rfl, d, _, rfl, t2.same.seq hd2, fun u hu => ?_⟩
      rw [cut_hi]
      have t3 := t2.lst hu (DpAll.take hf hxs2)
      rw [← List.map_take] at t3
      refine ⟨_, size, _, ds.take hf, _, _, rfl, t3.same, t3.g 1 rfl, t3.g 0 rfl, ⟨hz2, by rw [turnedBy_len]; omega, turnedBy_inR (by omega), by rw [turnedBy_len]; exact va⟩, fun f3 xf3 G3 H3 g3 h0 hg hh hd => ?_⟩
      rw [turned_two va vb, List.take_append_drop] at hd
      have t4 : S K _ _ [(.ref f3, dI (turnedBy size row ds)), (.ref d, dT ds), (.ref r, dI row)] [] _ _ := ((t3.got g3 h0 hg hh).give hd).sel [0, 3, 4]
      refine ⟨_, rfl, .ref r, rfl, .ref d, rfl, _, size, row, ds, _, _, rfl, t4.same, t4.g 2 rfl, t4.g 1 rfl, ⟨hz2, by omega, hin, hv⟩, fun f5 xf5 G5 H5 g5 h0 hg hh hd => ?_⟩
      have t5 := (t4.got g5 h0 hg hh).give hd
      refine ⟨dI (turnedBy size row ds), dI (turnedBy size row ds), t5.h 1 rfl, t5.h 0 rfl, shaped_dI _, shaped_dI _, _, rfl, ?_⟩
      rw [eqv_dI, decide_eq_true rfl]
      -- by hand
      have u0 := S.start t5.same (fun _ h => nomatch h : ∀ p ∈ ([] : List (V × PyData)), Dp K _ p.1 p.2)
      refine ⟨small3 (by show 3 ≤ 100000; decide), fun p1 hp1 => ?_⟩
      have u1 := u0.lst hp1 (dpAll_ints [9, 0, 5])
      refine ⟨small3 (by show 3 ≤ 100000; decide), fun p2 hp2 => ?_⟩
      have u2 := u1.tup (ds := [.int 0, .int 2, .int 3]) hp2 (.cons (.int _) (.cons (.int _) (.cons (.int _) .nil)))
      refine ⟨_, rfl, small3 (by show 3 ≤ 100000; decide), fun p3 hp3 => ?_⟩
      have u3 := u2.tup (ds := [.int 1, .int 3, .int (-14)]) hp3 (.cons (.int _) (.cons (.int _) (.cons (.int _) .nil)))
      refine ⟨small3 (by show 2 ≤ 100000; decide), fun p4 hp4 => ?_⟩
      have u4 := u3.lst hp4 (.cons (u3.g 1 rfl) (.cons (u3.g 0 rfl) .nil))
      refine ⟨_, 10, [9, 0, 5], [(0, 2, 3), (1, 3, -14)], _, _, rfl, u4.same, u4.g 3 rfl, u4.g 0 rfl, ⟨by decide, by decide, hand_in, hand_ok⟩, fun f5 xf5 G5 H5 g5 h0 hg hh hd => ?_⟩
      have u5 := (u4.got g5 h0 hg hh).give hd
      refine ⟨small3 (by show 3 ≤ 100000; decide), fun p6 hp6 => ?_⟩
      have u6 := u5.lst hp6 (dpAll_ints [2, 9, 1])
      refine ⟨_, _, u6.h 1 rfl, u6.h 0 rfl, shaped_dI _, shaped_dI [2, 9, 1], true, rfl, ?_⟩
      refine ⟨Nat.zero_le _, fun p7 hp7 => ?_⟩
      have u7 := u6.lst hp7 (dpAll_ints [])
      refine ⟨Nat.zero_le _, fun p8 hp8 => ?_⟩
      have u8 := u7.lst hp8 (xs := []) (ds := []) .nil
      refine ⟨_, 2, [], [], _, _, rfl, u8.same, u8.g 1 rfl, u8.g 0 rfl, ⟨by decide, by decide, (fun _ h => nomatch h), (fun _ h => nomatch h)⟩, fun f9 xf9 G9 H9 g9 h0 hg hh hd => ?_⟩
      have u9 := (u8.got g9 h0 hg hh).give hd
      refine ⟨Nat.zero_le _, fun p10 hp10 => ?_⟩
      have u10 := u9.lst hp10 (dpAll_ints [])
      exact ⟨_, _, u10.h 1 rfl, u10.h 0 rfl, shaped_dI _, shaped_dI [], q _⟩
end Dial
namespace Dial
open PySem PySem.Spec PyProof.Rows L2 Dr DM
theorem all_mk {l : PySem.W.OpenLaw} {w : World} {K : PySem.W.Frag} {h : Heap} {mg : Str → Option Value} {fa : Addr} (X : K.In h) (G : h.Ns mainGlobals mg) (hfa : mg "law" = some (.ref fa))
    {f0 : Addr} {od0 an0 : Option Addr} {sl0 : Array (Option Value)} {oc0 kV0 dc0 pm0 cd0 ct0 : Value}
    {f1 : Addr} {od1 an1 : Option Addr} {sl1 : Array (Option Value)} {oc1 kV1 dc1 pm1 cd1 ct1 : Value}
    {f2 : Addr} {od2 an2 : Option Addr} {sl2 : Array (Option Value)} {oc2 kV2 dc2 pm2 cd2 ct2 : Value}
    {f3 : Addr} {od3 an3 : Option Addr} {sl3 : Array (Option Value)} {oc3 kV3 dc3 pm3 cd3 ct3 : Value}
    {f4 : Addr} {od4 an4 : Option Addr} {sl4 : Array (Option Value)} {oc4 kV4 dc4 pm4 cd4 ct4 : Value}
    {f5 : Addr} {od5 an5 : Option Addr} {sl5 : Array (Option Value)} {oc5 kV5 dc5 pm5 cd5 ct5 : Value}
    {f6 : Addr} {od6 an6 : Option Addr} {sl6 : Array (Option Value)} {oc6 kV6 dc6 pm6 cd6 ct6 : Value}
    {f7 : Addr} {od7 an7 : Option Addr} {sl7 : Array (Option Value)} {oc7 kV7 dc7 pm7 cd7 ct7 : Value}
    {f8 : Addr} {od8 an8 : Option Addr} {sl8 : Array (Option Value)} {oc8 kV8 dc8 pm8 cd8 ct8 : Value}
    {f9 : Addr} {od9 an9 : Option Addr} {sl9 : Array (Option Value)} {oc9 kV9 dc9 pm9 cd9 ct9 : Value}
    {f10 : Addr} {od10 an10 : Option Addr} {sl10 : Array (Option Value)} {oc10 kV10 dc10 pm10 cd10 ct10 : Value}
    {f11 : Addr} {od11 an11 : Option Addr} {sl11 : Array (Option Value)} {oc11 kV11 dc11 pm11 cd11 ct11 : Value}
    {f12 : Addr} {od12 an12 : Option Addr} {sl12 : Array (Option Value)} {oc12 kV12 dc12 pm12 cd12 ct12 : Value}
    (a0 : PySem.W.nsIn K mainGlobals "is_number" = some (some (.ref f0)))
    (l0 : K.lookup f0 = some ⟨oc0, od0, .func (PySem.W.fnOf "is_number" "is_number" (defArgs s_is_number) (defBody s_is_number) (defScope s_is_number) .none kV0 dc0 pm0 an0 cd0 ct0), sl0⟩) (c0 : PySem.W.codeIn K cd0 "is_number" = true) (k0 : PySem.W.keepIn K (.ref f0) = true)
    (a1 : PySem.W.nsIn K mainGlobals "asked_size" = some (some (.ref f1)))
    (l1 : K.lookup f1 = some ⟨oc1, od1, .func (PySem.W.fnOf "asked_size" "asked_size" (defArgs s_asked_size) (defBody s_asked_size) (defScope s_asked_size) .none kV1 dc1 pm1 an1 cd1 ct1), sl1⟩) (c1 : PySem.W.codeIn K cd1 "asked_size" = true) (k1 : PySem.W.keepIn K (.ref f1) = true)
    (a2 : PySem.W.nsIn K mainGlobals "asked_row" = some (some (.ref f2)))
    (l2 : K.lookup f2 = some ⟨oc2, od2, .func (PySem.W.fnOf "asked_row" "asked_row" (defArgs s_asked_row) (defBody s_asked_row) (defScope s_asked_row) .none kV2 dc2 pm2 an2 cd2 ct2), sl2⟩) (c2 : PySem.W.codeIn K cd2 "asked_row" = true) (k2 : PySem.W.keepIn K (.ref f2) = true)
    (a3 : PySem.W.nsIn K mainGlobals "is_deed" = some (some (.ref f3)))
    (l3 : K.lookup f3 = some ⟨oc3, od3, .func (PySem.W.fnOf "is_deed" "is_deed" (defArgs s_is_deed) (defBody s_is_deed) (defScope s_is_deed) .none kV3 dc3 pm3 an3 cd3 ct3), sl3⟩) (c3 : PySem.W.codeIn K cd3 "is_deed" = true) (k3 : PySem.W.keepIn K (.ref f3) = true)
    (a4 : PySem.W.nsIn K mainGlobals "asked_deeds" = some (some (.ref f4)))
    (l4 : K.lookup f4 = some ⟨oc4, od4, .func (PySem.W.fnOf "asked_deeds" "asked_deeds" (defArgs s_asked_deeds) (defBody s_asked_deeds) (defScope s_asked_deeds) .none kV4 dc4 pm4 an4 cd4 ct4), sl4⟩) (c4 : PySem.W.codeIn K cd4 "asked_deeds" = true) (k4 : PySem.W.keepIn K (.ref f4) = true)
    (a5 : PySem.W.nsIn K mainGlobals "turned_by" = some (some (.ref f5)))
    (l5 : K.lookup f5 = some ⟨oc5, od5, .func (PySem.W.fnOf "turned_by" "turned_by" (defArgs s_turned_by) (defBody s_turned_by) (defScope s_turned_by) .none kV5 dc5 pm5 an5 cd5 ct5), sl5⟩) (c5 : PySem.W.codeIn K cd5 "turned_by" = true) (k5 : PySem.W.keepIn K (.ref f5) = true)
    (a6 : PySem.W.nsIn K mainGlobals "turned" = some (some (.ref f6)))
    (l6 : K.lookup f6 = some ⟨oc6, od6, .func (PySem.W.fnOf "turned" "turned" (defArgs s_turned) (defBody s_turned) (defScope s_turned) .none kV6 dc6 pm6 an6 cd6 ct6), sl6⟩) (c6 : PySem.W.codeIn K cd6 "turned" = true) (k6 : PySem.W.keepIn K (.ref f6) = true)
    (a7 : PySem.W.nsIn K mainGlobals "_law_size" = some (some (.ref f7)))
    (l7 : K.lookup f7 = some ⟨oc7, od7, .func (PySem.W.fnOf "_law_size" "_law_size" (defArgs s__law_size) (defBody s__law_size) (defScope s__law_size) .none kV7 dc7 pm7 an7 cd7 ct7), sl7⟩) (c7 : PySem.W.codeIn K cd7 "_law_size" = true) (k7 : PySem.W.keepIn K (.ref f7) = true)
    (a8 : PySem.W.nsIn K mainGlobals "_law_row" = some (some (.ref f8)))
    (l8 : K.lookup f8 = some ⟨oc8, od8, .func (PySem.W.fnOf "_law_row" "_law_row" (defArgs s__law_row) (defBody s__law_row) (defScope s__law_row) .none kV8 dc8 pm8 an8 cd8 ct8), sl8⟩) (c8 : PySem.W.codeIn K cd8 "_law_row" = true) (k8 : PySem.W.keepIn K (.ref f8) = true)
    (a9 : PySem.W.nsIn K mainGlobals "_law_numbers" = some (some (.ref f9)))
    (l9 : K.lookup f9 = some ⟨oc9, od9, .func (PySem.W.fnOf "_law_numbers" "_law_numbers" (defArgs s__law_numbers) (defBody s__law_numbers) (defScope s__law_numbers) .none kV9 dc9 pm9 an9 cd9 ct9), sl9⟩) (c9 : PySem.W.codeIn K cd9 "_law_numbers" = true) (k9 : PySem.W.keepIn K (.ref f9) = true)
    (a10 : PySem.W.nsIn K mainGlobals "_law_turned" = some (some (.ref f10)))
    (l10 : K.lookup f10 = some ⟨oc10, od10, .func (PySem.W.fnOf "_law_turned" "_law_turned" (defArgs s__law_turned) (defBody s__law_turned) (defScope s__law_turned) .none kV10 dc10 pm10 an10 cd10 ct10), sl10⟩) (c10 : PySem.W.codeIn K cd10 "_law_turned" = true) (k10 : PySem.W.keepIn K (.ref f10) = true)
    (a11 : PySem.W.nsIn K mainGlobals "_law_deeds" = some (some (.ref f11)))
    (l11 : K.lookup f11 = some ⟨oc11, od11, .func (PySem.W.fnOf "_law_deeds" "_law_deeds" (defArgs s__law_deeds) (defBody s__law_deeds) (defScope s__law_deeds) .none kV11 dc11 pm11 an11 cd11 ct11), sl11⟩) (c11 : PySem.W.codeIn K cd11 "_law_deeds" = true) (k11 : PySem.W.keepIn K (.ref f11) = true)
    (a12 : PySem.W.nsIn K mainGlobals "law" = some (some (.ref f12)))
    (l12 : K.lookup f12 = some ⟨oc12, od12, .func (PySem.W.fnOf "law" "law" (defArgs s_law) (defBody s_law) (defScope s_law) .none kV12 dc12 pm12 an12 cd12 ct12), sl12⟩) (c12 : PySem.W.codeIn K cd12 "law" = true) (k12 : PySem.W.keepIn K (.ref f12) = true)
    (z_abs : PySem.W.nsIn K mainGlobals "abs" = some none)
    (z_all : PySem.W.nsIn K mainGlobals "all" = some none)
    (z_bool : PySem.W.nsIn K mainGlobals "bool" = some none)
    (z_enumerate : PySem.W.nsIn K mainGlobals "enumerate" = some none)
    (z_int : PySem.W.nsIn K mainGlobals "int" = some none)
    (z_isinstance : PySem.W.nsIn K mainGlobals "isinstance" = some none)
    (z_len : PySem.W.nsIn K mainGlobals "len" = some none)
    (z_list : PySem.W.nsIn K mainGlobals "list" = some none)
    (z_min : PySem.W.nsIn K mainGlobals "min" = some none)
    (z_range : PySem.W.nsIn K mainGlobals "range" = some none)
    (z_sum : PySem.W.nsIn K mainGlobals "sum" = some none)
    (z_tuple : PySem.W.nsIn K mainGlobals "tuple" = some none)
    (z_zip : PySem.W.nsIn K mainGlobals "zip" = some none) :
    ∃ fd : FuncData, (∀ (s : Shared) (v : Value), BindsTo s fd ⟨[v], []⟩ [("_law_script", v)]) ∧ ∀ base : Heap, K.In base → base.Ns mainGlobals mg → FnOk l.prog w K mg base CX0 4 fa fd ["_law_script"] (sp_law K) := by
  have e := hfa.symm.trans (PySem.W.mg_of X G a12)
  cases e
  have F0 := fun_mk (st := s_is_number) l0 c0 k0
  have b0 := F0.binds (ps := ["thing"]) fun _ _ _ _ _ _ us hl => match us, hl with | [_], _ => rfl
  have F1 := fun_mk (st := s_asked_size) l1 c1 k1
  have b1 := F1.binds (ps := ["size"]) fun _ _ _ _ _ _ us hl => match us, hl with | [_], _ => rfl
  have F2 := fun_mk (st := s_asked_row) l2 c2 k2
  have b2 := F2.binds (ps := ["size", "row"]) fun _ _ _ _ _ _ us hl => match us, hl with | [_, _], _ => rfl
  have F3 := fun_mk (st := s_is_deed) l3 c3 k3
  have b3 := F3.binds (ps := ["many", "first", "end", "steps"]) fun _ _ _ _ _ _ us hl => match us, hl with | [_, _, _, _], _ => rfl
  have F4 := fun_mk (st := s_asked_deeds) l4 c4 k4
  have b4 := F4.binds (ps := ["many", "deeds"]) fun _ _ _ _ _ _ us hl => match us, hl with | [_, _], _ => rfl
  have F5 := fun_mk (st := s_turned_by) l5 c5 k5
  have b5 := F5.binds (ps := ["size", "row", "deeds"]) fun _ _ _ _ _ _ us hl => match us, hl with | [_, _, _], _ => rfl
  have F6 := fun_mk (st := s_turned) l6 c6 k6
  have b6 := F6.binds (ps := ["size", "row", "deeds"]) fun _ _ _ _ _ _ us hl => match us, hl with | [_, _, _], _ => rfl
  have F7 := fun_mk (st := s__law_size) l7 c7 k7
  have b7 := F7.binds (ps := ["_law_script"]) fun _ _ _ _ _ _ us hl => match us, hl with | [_], _ => rfl
  have F8 := fun_mk (st := s__law_row) l8 c8 k8
  have b8 := F8.binds (ps := ["_law_script", "_law_size_here", "_law_by"]) fun _ _ _ _ _ _ us hl => match us, hl with | [_, _, _], _ => rfl
  have F9 := fun_mk (st := s__law_numbers) l9 c9 k9
  have b9 := F9.binds (ps := ["_law_found"]) fun _ _ _ _ _ _ us hl => match us, hl with | [_], _ => rfl
  have F10 := fun_mk (st := s__law_turned) l10 c10 k10
  have b10 := F10.binds (ps := ["_law_size_here", "_law_row_here", "_law_deeds_here"]) fun _ _ _ _ _ _ us hl => match us, hl with | [_, _, _], _ => rfl
  have F11 := fun_mk (st := s__law_deeds) l11 c11 k11
  have b11 := F11.binds (ps := ["_law_script", "_law_many"]) fun _ _ _ _ _ _ us hl => match us, hl with | [_, _], _ => rfl
  have F12 := fun_mk (st := s_law) l12 c12 k12
  have b12 := F12.binds (ps := ["_law_script"]) fun _ _ _ _ _ _ us hl => match us, hl with | [_], _ => rfl
  let T : Txt K mg := ⟨_,
    _,
    ⟨F0, PySem.W.mg_of X G a0, b0⟩,
    _,
    _,
    ⟨F1, PySem.W.mg_of X G a1, b1⟩,
    _,
    _,
    ⟨F2, PySem.W.mg_of X G a2, b2⟩,
    _,
    _,
    ⟨F3, PySem.W.mg_of X G a3, b3⟩,
    _,
    _,
    ⟨F4, PySem.W.mg_of X G a4, b4⟩,
    _,
    _,
    ⟨F5, PySem.W.mg_of X G a5, b5⟩,
    _,
    _,
    ⟨F6, PySem.W.mg_of X G a6, b6⟩,
    _,
    _,
    ⟨F7, PySem.W.mg_of X G a7, b7⟩,
    _,
    _,
    ⟨F8, PySem.W.mg_of X G a8, b8⟩,
    _,
    _,
    ⟨F9, PySem.W.mg_of X G a9, b9⟩,
    _,
    _,
    ⟨F10, PySem.W.mg_of X G a10, b10⟩,
    _,
    _,
    ⟨F11, PySem.W.mg_of X G a11, b11⟩,
    _,
    _,
    ⟨F12, PySem.W.mg_of X G a12, b12⟩,
    PySem.W.mg_none_of X G z_abs,
    PySem.W.mg_none_of X G z_all,
    PySem.W.mg_none_of X G z_bool,
    PySem.W.mg_none_of X G z_enumerate,
    PySem.W.mg_none_of X G z_int,
    PySem.W.mg_none_of X G z_isinstance,
    PySem.W.mg_none_of X G z_len,
    PySem.W.mg_none_of X G z_list,
    PySem.W.mg_none_of X G z_min,
    PySem.W.mg_none_of X G z_range,
    PySem.W.mg_none_of X G z_sum,
    PySem.W.mg_none_of X G z_tuple,
    PySem.W.mg_none_of X G z_zip⟩
  exact ⟨_, fun s v => .of_eq rfl, fun base _ _ => ok_law T⟩

end Dial
open PySem PySem.W PyProof.Rows
set_option maxHeartbeats 0 in
theorem PySem.Challenge.cw_dialrow_k01_whole_turned_holds : PySem.Challenge.rw_dialrow_k01_whole_turned.Holds := by
  w_on; o_law; k_head; (case hw => w_witness2)
  k_fill
  refine L2.walk_ofB (l := PySem.Challenge.rw_dialrow_k01_whole_turned) (n := 63) (k := 4) (x := "_law_script") (CX := fun _ => L2.CX0) (sp := fun w => Dial.sp_law _) rfl (by decide) rfl ⟨rfl, by decide, by decide⟩ (fun w h Y => PySem.W.kIn_of Y) ?F (fun w H a ns hl hb _ hS => Dial.sp_law_of hl hb hS) (fun _ _ _ _ _ h => h)
  case F =>
    intro w mg fa h KX G hmg
    refine' Dial.all_mk KX G hmg ?a0 ?l0 ?c0 ?k0 ?a1 ?l1 ?c1 ?k1 ?a2 ?l2 ?c2 ?k2 ?a3 ?l3 ?c3 ?k3 ?a4 ?l4 ?c4 ?k4 ?a5 ?l5 ?c5 ?k5 ?a6 ?l6 ?c6 ?k6 ?a7 ?l7 ?c7 ?k7 ?a8 ?l8 ?c8 ?k8 ?a9 ?l9 ?c9 ?k9 ?a10 ?l10 ?c10 ?k10 ?a11 ?l11 ?c11 ?k11 ?a12 ?l12 ?c12 ?k12 ?z_abs ?z_all ?z_bool ?z_enumerate ?z_int ?z_isinstance ?z_len ?z_list ?z_min ?z_range ?z_sum ?z_tuple ?z_zip
    (case a0 => k_is)
    (case l0 => k_is)
    (case c0 => k_is)
    (case k0 => k_is)
    (case a1 => k_is)
    (case l1 => k_is)
    (case c1 => k_is)
    (case k1 => k_is)
    (case a2 => k_is)
    (case l2 => k_is)
    (case c2 => k_is)
    (case k2 => k_is)
    (case a3 => k_is)
    (case l3 => k_is)
    (case c3 => k_is)
    (case k3 => k_is)
    (case a4 => k_is)
    (case l4 => k_is)
    (case c4 => k_is)
    (case k4 => k_is)
    (case a5 => k_is)
    (case l5 => k_is)
    (case c5 => k_is)
    (case k5 => k_is)
    (case a6 => k_is)
    (case l6 => k_is)
    (case c6 => k_is)
    (case k6 => k_is)
    (case a7 => k_is)
    (case l7 => k_is)
    (case c7 => k_is)
    (case k7 => k_is)
    (case a8 => k_is)
    (case l8 => k_is)
    (case c8 => k_is)
    (case k8 => k_is)
    (case a9 => k_is)
    (case l9 => k_is)
    (case c9 => k_is)
    (case k9 => k_is)
    (case a10 => k_is)
    (case l10 => k_is)
    (case c10 => k_is)
    (case k10 => k_is)
    (case a11 => k_is)
    (case l11 => k_is)
    (case c11 => k_is)
    (case k11 => k_is)
    (case a12 => k_is)
    (case l12 => k_is)
    (case c12 => k_is)
    (case k12 => k_is)
    (case z_abs => k_is)
    (case z_all => k_is)
    (case z_bool => k_is)
    (case z_enumerate => k_is)
    (case z_int => k_is)
    (case z_isinstance => k_is)
    (case z_len => k_is)
    (case z_list => k_is)
    (case z_min => k_is)
    (case z_range => k_is)
    (case z_sum => k_is)
    (case z_tuple => k_is)
    (case z_zip => k_is)

