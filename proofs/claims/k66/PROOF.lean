import PyProof.Rows.All
import Wide.All
import OpenK.AllK
import Wide.FinOn
import HandS.ForMost
import HandS.IsInst
import HandS.Walk
import HandS.Lambda
import HandS.TupAny
import HandS.TupMul
import HandS.Style
import HandS.RaiseMore
import HandS.Text
import HandS.Wide
import HandS.Rev
import HandS.Zip
import HandS.WordsExc
import HandS.ExcOwn
import HandS.TryMany
import KE.KDictZip
import HandS.ExcValue
import HandS.Deep
import HandS.Dict
import KE.GoesEnum
import HandS.ExcField
import KE.KExcIs
import HandS.WideBits
import HandS.ExcIs
import HandS.EndTab
import PySem.Challenge.RW_provenplay_k66_circuits_after_beginnings
set_option Elab.async false
set_option linter.all false
set_option maxRecDepth 100000
set_option maxHeartbeats 2000000
/-! # The data layer: what a def does with plain data, told without the heap -/
namespace DL
open PySem PySem.Spec L2

/-! ### data at an address, under a growing heap; its lists are tracked -/
mutual
inductive Dq (K : PySem.W.Frag) (H : Hp) : V → PyData → Prop
  | non : Dq K H .non .none
  | bl (b : Bool) : Dq K H (.bl b) (.bool b)
  | int (i : Int) : Dq K H (.int i) (.int i)
  | str (x : Str) : Dq K H (.str x) (.str x)
  | lst {a : Addr} {xs : List V} {ds : List PyData} : H a = some (.lst xs) → DqAll K H xs ds → Dq K H (.ref a) (.list ds)
  | tup {a : Addr} {xs : List V} {ds : List PyData} : SqT K H a xs → DqAll K H xs ds → Dq K H (.ref a) (.tuple ds)
inductive DqAll (K : PySem.W.Frag) (H : Hp) : List V → List PyData → Prop
  | nil : DqAll K H [] []
  | cons {v : V} {vs : List V} {d : PyData} {ds : List PyData} : Dq K H v d → DqAll K H vs ds → DqAll K H (v :: vs) (d :: ds)
end
mutual
theorem Dq.dp {K : PySem.W.Frag} {H : Hp} : ∀ (d : PyData) (v : V), Dq K H v d → Dp K H v d
  | .none, _, .non => .non
  | .bool _, _, .bl b => .bl b
  | .int _, _, .int i => .int i
  | .str _, _, .str x => .str x
  | .list ds, _, .lst h a => .lst (.inl (.inl h)) (DqAll.dp ds _ a)
  | .tuple ds, _, .tup h a => .tup h (DqAll.dp ds _ a)
theorem DqAll.dp {K : PySem.W.Frag} {H : Hp} : ∀ (ds : List PyData) (vs : List V), DqAll K H vs ds → DpAll K H vs ds
  | [], _, .nil => .nil
  | d :: ds, _, .cons h a => .cons (Dq.dp d _ h) (DqAll.dp ds _ a)
end
theorem rd_mono {H H' : Hp} (e : Same H H') {a : Addr} {u : HO} (h : Rd H a u) : Rd H' a u := by
  rcases h with h | ⟨o, h⟩
  · exact .inl (e _ _ h)
  · exact .inr ⟨o, e _ _ h⟩
theorem sl_mono {K : PySem.W.Frag} {H H' : Hp} (e : Same H H') {a : Addr} {xs : List V} (h : SqL K H a xs) : SqL K H' a xs := h.elim (fun h => .inl (rd_mono e h)) .inr
theorem st_mono {K : PySem.W.Frag} {H H' : Hp} (e : Same H H') {a : Addr} {xs : List V} (h : SqT K H a xs) : SqT K H' a xs := h.elim (fun h => .inl (rd_mono e h)) .inr
mutual
theorem dp_mono {K : PySem.W.Frag} {H H' : Hp} (e : Same H H') : ∀ (d : PyData) (v : V), Dq K H v d → Dq K H' v d
  | .none, _, .non => .non
  | .bool _, _, .bl b => .bl b
  | .int _, _, .int i => .int i
  | .str _, _, .str x => .str x
  | .list ds, _, .lst h a => .lst (e _ _ h) (dpa_mono e ds _ a)
  | .tuple ds, _, .tup h a => .tup (st_mono e h) (dpa_mono e ds _ a)
theorem dpa_mono {K : PySem.W.Frag} {H H' : Hp} (e : Same H H') : ∀ (ds : List PyData) (vs : List V), DqAll K H vs ds → DqAll K H' vs ds
  | [], _, .nil => .nil
  | d :: ds, _, .cons h a => .cons (dp_mono e d _ h) (dpa_mono e ds _ a)
end
section
variable {K : PySem.W.Frag} {H : Hp}
theorem dpa_len : ∀ {vs : List V} {ds : List PyData}, DqAll K H vs ds → vs.length = ds.length
  | _, _, .nil => rfl
  | _, _, .cons _ a => congrArg (· + 1) (dpa_len a)
theorem dpa_get : ∀ {vs : List V} {ds : List PyData} {i : Nat} {v : V}, DqAll K H vs ds → vs[i]? = some v → ∃ d, ds[i]? = some d ∧ Dq K H v d
  | _, _, _, _, .nil, e => by simp at e
  | _, _, 0, _, .cons h _, e => by simp at e; subst e; exact ⟨_, rfl, h⟩
  | _, _, i + 1, v, .cons _ t, e => by
    obtain ⟨d, h1, h2⟩ := dpa_get (i := i) (v := v) t (by simpa using e)
    exact ⟨d, by simpa using h1, h2⟩
theorem dpa_at : ∀ {vs : List V} {ds : List PyData} {i : Nat} {d : PyData}, DqAll K H vs ds → ds[i]? = some d → ∃ v, vs[i]? = some v ∧ Dq K H v d
  | _, _, _, _, .nil, e => by simp at e
  | _, _, 0, _, .cons h _, e => by simp at e; subst e; exact ⟨_, rfl, h⟩
  | _, _, i + 1, v, .cons _ t, e => by
    obtain ⟨d, h1, h2⟩ := dpa_at (i := i) (d := v) t (by simpa using e)
    exact ⟨d, by simpa using h1, h2⟩
theorem dpa_app : ∀ {vs ws : List V} {ds es : List PyData}, DqAll K H vs ds → DqAll K H ws es → DqAll K H (vs ++ ws) (ds ++ es)
  | _, _, _, _, .nil, b => b
  | _, _, _, _, .cons h a, b => .cons h (dpa_app a b)
theorem dpa_take : ∀ {vs : List V} {ds : List PyData} (n : Nat), DqAll K H vs ds → DqAll K H (vs.take n) (ds.take n)
  | _, _, 0, _ => .nil
  | _, _, _ + 1, .nil => .nil
  | _, _, n + 1, .cons h a => .cons h (dpa_take n a)
theorem dpa_drop : ∀ {vs : List V} {ds : List PyData} (n : Nat), DqAll K H vs ds → DqAll K H (vs.drop n) (ds.drop n)
  | _, _, 0, h => h
  | _, _, _ + 1, .nil => .nil
  | _, _, n + 1, .cons _ a => dpa_drop n a
theorem dpa_rev {vs : List V} {ds : List PyData} (h : DqAll K H vs ds) : DqAll K H vs.reverse ds.reverse := by
  induction vs generalizing ds with
  | nil => cases h; exact .nil
  | cons v vs ih =>
    cases h with
    | cons h a =>
      rw [List.reverse_cons, List.reverse_cons]
      exact dpa_app (ih a) (.cons h .nil)
theorem dpa_dropLast {vs : List V} {ds : List PyData} (h : DqAll K H vs ds) : DqAll K H vs.dropLast ds.dropLast := by
  rw [List.dropLast_eq_take, List.dropLast_eq_take, dpa_len h]
  exact dpa_take _ h
theorem dpa_ints (ns : List Int) : DqAll K H (ns.map V.int) (ns.map PyData.int) := by
  induction ns with
  | nil => exact .nil
  | cons n ns ih => exact .cons (.int n) ih
end

/-! ### the deck: a dict of a list of ints and two ints, at known addresses -/
structure DKi where
  a : Addr
  l : Addr
  T : List (Addr × Str) := []
abbrev DK := Option DKi
def deckV (l : Addr) (m t : Int) : List (Key × V) := [(.inr "left", .ref l), (.inr "mixed", .int m), (.inr "draws", .int t)]
def DeckAt (k : DKi) (H : Hp) : Prop := ∃ (cells : List Int) (m t : Int), H k.a = some (.dK (deckV k.l m t)) ∧ H k.l = some (.lst (cells.map V.int)) ∧ cells.length ≤ 1000
def InDk (dk : DK) (b : Addr) : Prop := ∃ k, dk = some k ∧ (b = k.a ∨ b = k.l)
def DkOk (dk : DK) (H G : Hp) : Prop := ∀ k, dk = some k → k.a ≠ k.l ∧ DeckAt k H ∧ G k.a = none ∧ G k.l = none ∧ LamX.Tabs k.T H ∧ (∀ b ps, G b ≠ some (.tbl ps)) ∧ ∀ b ps, H b = some (.tbl ps) → ∃ q, (b, q) ∈ k.T
theorem DkOk.none {H G : Hp} : DkOk none H G := fun _ h => nomatch h
theorem DkOk.there {dk : DK} {H G : Hp} (h : DkOk dk H G) {b : Addr} (i : InDk dk b) : H b ≠ Option.none ∧ G b = Option.none := by
  obtain ⟨k, e, i⟩ := i
  obtain ⟨ne, ⟨cells, m, t, h1, h2, _⟩, g1, g2, _⟩ := h k e
  rcases i with rfl | rfl
  · exact ⟨by rw [h1]; simp, g1⟩
  · exact ⟨by rw [h2]; simp, g2⟩

/-! ### growth: H, all that is tracked; G, what may be read as data -/
structure Grow (dk : DK) (H G H' G' : Hp) : Prop where
  sub : Same G' H'
  gg : Same G G'
  hh : ∀ b o, ¬ InDk dk b → H b = some o → (∀ ps, o ≠ .tbl ps) → H' b = some o
  tb : ∀ b ps, H b = some (.tbl ps) → ∃ ps', H' b = some (.tbl ps')
  nw : ∀ b o, G' b = some o → G b = some o ∨ H b = none
  dk : DkOk dk H' G'
section
variable {dk : DK} {H G H' G' H2 G2 : Hp}
theorem Grow.refl (s : Same G H) (d : DkOk dk H G) : Grow dk H G H G := ⟨s, fun _ _ h => h, fun _ _ _ h _ => h, fun _ ps h => ⟨ps, h⟩, fun _ _ h => .inl h, d⟩
theorem Grow.th (g : Grow dk H G H' G') (d : DkOk dk H G) {b : Addr} (h : H' b = none) : H b = none := by
  cases e : H b with
  | none => rfl
  | some o =>
    by_cases i : InDk dk b
    · exact absurd h (g.dk.there i).1
    · by_cases n : ∃ ps, o = .tbl ps
      · obtain ⟨ps, rfl⟩ := n
        obtain ⟨ps', e'⟩ := g.tb b ps e
        rw [e'] at h; cases h
      · rw [g.hh b o i e fun ps z => n ⟨ps, z⟩] at h; cases h
theorem Grow.trans (a : Grow dk H G H' G') (b : Grow dk H' G' H2 G2) (d : DkOk dk H G) : Grow dk H G H2 G2 where
  sub := b.sub
  gg := fun c o h => b.gg c o (a.gg c o h)
  hh := fun c o n h z => b.hh c o n (a.hh c o n h z) z
  tb := fun c ps h => let ⟨ps', h'⟩ := a.tb c ps h; b.tb c ps' h'
  nw := fun c o h => by
    rcases b.nw c o h with h | h
    · exact a.nw c o h
    · exact .inr (a.th d h)
  dk := b.dk
theorem Grow.new (s : Same G H) (d : DkOk dk H G) {p : Addr} {o : HO} (hp : H p = none) (no : ∀ ps, o ≠ .tbl ps := by intro _ e; cases e) : Grow dk H G (upd H p o) (upd G p o) where
  sub := fun b u h => by
    by_cases e : b = p
    · subst e; rw [upd_same] at h ⊢; exact h
    · rw [upd_ne e] at h ⊢; exact s b u h
  gg := fun b u h => by
    rw [upd_ne (ne_of_none (s b u h) hp)]; exact h
  hh := fun b u _ h _ => by rw [upd_ne (ne_of_none h hp)]; exact h
  tb := fun b ps h => ⟨ps, by rw [upd_ne (ne_of_none h hp)]; exact h⟩
  nw := fun b u h => by
    by_cases e : b = p
    · subst e; exact .inr hp
    · rw [upd_ne e] at h; exact .inl h
  dk := fun k e => by
    obtain ⟨ne, ⟨cells, m, t, h1, h2, h3⟩, g1, g2, g3, g4, g5⟩ := d k e
    have n1 := ne_of_none h1 hp
    have n2 := ne_of_none h2 hp
    refine ⟨ne, ⟨cells, m, t, by rw [upd_ne n1]; exact h1, by rw [upd_ne n2]; exact h2, h3⟩, by rw [upd_ne n1]; exact g1, by rw [upd_ne n2]; exact g2, g3.ext fun b u q => by rw [upd_ne (ne_of_none q hp)]; exact q, fun b ps q => ?_, fun b ps q => ?_⟩
    · by_cases e : b = p
      · subst e; rw [upd_same] at q; exact no ps (Option.some.inj q)
      · rw [upd_ne e] at q; exact g4 b ps q
    · by_cases e : b = p
      · subst e; rw [upd_same] at q; exact absurd (Option.some.inj q) (no ps)
      · rw [upd_ne e] at q; exact g5 b ps q
/-- a new object that is not read as data -/
theorem Grow.newH (s : Same G H) (d : DkOk dk H G) {p : Addr} {o : HO} (hp : H p = none) (no : ∀ ps, o ≠ .tbl ps := by intro _ e; cases e) : Grow dk H G (upd H p o) G where
  sub := fun b u h => by rw [upd_ne (ne_of_none (s b u h) hp)]; exact s b u h
  gg := fun _ _ h => h
  hh := fun b u _ h _ => by rw [upd_ne (ne_of_none h hp)]; exact h
  tb := fun b ps h => ⟨ps, by rw [upd_ne (ne_of_none h hp)]; exact h⟩
  nw := fun _ _ h => .inl h
  dk := fun k e => by
    obtain ⟨ne, ⟨cells, m, t, h1, h2, h3⟩, g1, g2, g3, g4, g5⟩ := d k e
    have n1 := ne_of_none h1 hp
    have n2 := ne_of_none h2 hp
    refine ⟨ne, ⟨cells, m, t, by rw [upd_ne n1]; exact h1, by rw [upd_ne n2]; exact h2, h3⟩, g1, g2, g3.ext fun b u q => by rw [upd_ne (ne_of_none q hp)]; exact q, g4, fun b ps q => ?_⟩
    by_cases e : b = p
    · subst e; rw [upd_same] at q; exact absurd (Option.some.inj q) (no ps)
    · rw [upd_ne e] at q; exact g5 b ps q
/-- what stood aside (not read as data) is written; it was not there at the beginning -/
theorem Grow.put (g : Grow dk H G H' G') (d : DkOk dk H G) {p : Addr} {o : HO} (hp : H p = none) (gp : G' p = none) (hu : ∃ u, H' p = some u ∧ (∀ c q, u ≠ LamX.CodeO c q) ∧ ∀ ps, u ≠ .tbl ps) (no : ∀ ps, o ≠ .tbl ps := by intro _ e; cases e) : Grow dk H G (upd H' p o) G' where
  sub := fun b u h => by
    have n : b ≠ p := fun e => by subst e; rw [gp] at h; cases h
    rw [upd_ne n]; exact g.sub b u h
  gg := g.gg
  hh := fun b u n h z => by rw [upd_ne (ne_of_none h hp)]; exact g.hh b u n h z
  tb := fun b ps h => let ⟨ps', h'⟩ := g.tb b ps h; ⟨ps', by rw [upd_ne (ne_of_none h hp)]; exact h'⟩
  nw := g.nw
  dk := fun k e => by
    obtain ⟨ne, ⟨cells, m, t, h1, h2, h3⟩, g1, g2, g3, g4, g5⟩ := g.dk k e
    have n1 : k.a ≠ p := fun z => by
      have := (d.there ⟨k, e, .inl rfl⟩).1
      rw [z, hp] at this; exact this rfl
    have n2 : k.l ≠ p := fun z => by
      have := (d.there ⟨k, e, .inr rfl⟩).1
      rw [z, hp] at this; exact this rfl
    obtain ⟨u, hu, hc, ht⟩ := hu
    refine ⟨ne, ⟨cells, m, t, by rw [upd_ne n1]; exact h1, by rw [upd_ne n2]; exact h2, h3⟩, g1, g2, fun r hr => ?_, g4, fun b ps q => by
      by_cases e : b = p
      · subst e; rw [upd_same] at q; exact absurd (Option.some.inj q) (no ps)
      · rw [upd_ne e] at q; exact g5 b ps q⟩
    obtain ⟨ps, q1, q2, q3⟩ := g3 r hr
    have nP : r.1 ≠ p := fun z => by rw [z, hu] at q1; exact ht ps (Option.some.inj q1)
    refine ⟨ps, by rw [upd_ne nP]; exact q1, q2, fun pos cv hcv => ?_⟩
    obtain ⟨c, e1, e2⟩ := q3 pos cv hcv
    have nC : c ≠ p := fun z => by rw [z, hu] at e2; exact hc p r.2 (Option.some.inj e2)
    exact ⟨c, e1, by rw [upd_ne nC]; exact e2⟩
/-- what stood aside is read as data from now on -/
theorem Grow.show (g : Grow dk H G H' G') (d : DkOk dk H G) {p : Addr} {o : HO} (hp : H p = none) (h' : H' p = some o) (no : ∀ ps, o ≠ .tbl ps := by intro _ e; cases e) : Grow dk H G H' (upd G' p o) where
  sub := fun b u h => by
    by_cases e : b = p
    · subst e; rw [upd_same] at h; cases h; exact h'
    · rw [upd_ne e] at h; exact g.sub b u h
  gg := fun b u h => by
    by_cases e : b = p
    · subst e
      have q := g.sub _ _ (g.gg _ _ h)
      rw [h'] at q; cases q; rw [upd_same]
    · rw [upd_ne e]; exact g.gg b u h
  hh := g.hh
  tb := g.tb
  nw := fun b u h => by
    by_cases e : b = p
    · subst e; exact .inr hp
    · rw [upd_ne e] at h; exact g.nw b u h
  dk := fun k e => by
    obtain ⟨ne, dd, g1, g2, g3, g4, g5⟩ := g.dk k e
    have n1 : k.a ≠ p := fun z => by
      have := (d.there ⟨k, e, .inl rfl⟩).1
      rw [z, hp] at this; exact this rfl
    have n2 : k.l ≠ p := fun z => by
      have := (d.there ⟨k, e, .inr rfl⟩).1
      rw [z, hp] at this; exact this rfl
    refine ⟨ne, dd, by rw [upd_ne n1]; exact g1, by rw [upd_ne n2]; exact g2, g3, fun b ps q => ?_, g5⟩
    by_cases e : b = p
    · subst e; rw [upd_same] at q; exact no ps (Option.some.inj q)
    · rw [upd_ne e] at q; exact g4 b ps q
theorem Grow.deckA (g : Grow dk H G H' G') (d : DkOk dk H G) {k : DKi} (e : dk = some k) {m t : Int} {u : List (Key × V)} (h : H' k.a = some (.dK u)) : Grow dk H G (upd H' k.a (.dK (deckV k.l m t))) G' where
  sub := fun b o q => by
    rw [upd_ne (fun z => by rw [z, (g.dk k e).2.2.1] at q; cases q)]; exact g.sub b o q
  gg := g.gg
  hh := fun b o n q z => by rw [upd_ne (fun w => n ⟨k, e, .inl w⟩)]; exact g.hh b o n q z
  tb := fun b ps q => by
    obtain ⟨ps', q'⟩ := g.tb b ps q
    exact ⟨ps', by rw [upd_ne (fun w => by rw [w, h] at q'; cases q')]; exact q'⟩
  nw := g.nw
  dk := fun k' e' => by
    rw [e] at e'
    cases e'
    obtain ⟨ne, ⟨cells, m0, t0, h1, h2, h3⟩, g1, g2, g3, g4, g5⟩ := g.dk k e
    refine ⟨ne, ⟨cells, m, t, upd_same, by rw [upd_ne (Ne.symm ne)]; exact h2, h3⟩, g1, g2, fun r hr => ?_, g4, fun b ps q => by
      by_cases e : b = k.a
      · rw [e, upd_same] at q; cases q
      · rw [upd_ne e] at q; exact g5 b ps q⟩
    obtain ⟨ps, q1, q2, q3⟩ := g3 r hr
    refine ⟨ps, by rw [upd_ne (fun w => by rw [w, h] at q1; cases q1)]; exact q1, q2, fun pos cv hcv => ?_⟩
    obtain ⟨c, e1, e2⟩ := q3 pos cv hcv
    exact ⟨c, e1, by rw [upd_ne (fun w => by rw [w, h] at e2; unfold LamX.CodeO at e2; cases e2)]; exact e2⟩
theorem Grow.deckL (g : Grow dk H G H' G') (d : DkOk dk H G) {k : DKi} (e : dk = some k) {cells : List Int} {u : List V} (h : H' k.l = some (.lst u)) (hz : cells.length ≤ 1000) : Grow dk H G (upd H' k.l (.lst (cells.map V.int))) G' where
  sub := fun b o q => by
    rw [upd_ne (fun z => by rw [z, (g.dk k e).2.2.2.1] at q; cases q)]; exact g.sub b o q
  gg := g.gg
  hh := fun b o n q z => by rw [upd_ne (fun w => n ⟨k, e, .inr w⟩)]; exact g.hh b o n q z
  tb := fun b ps q => by
    obtain ⟨ps', q'⟩ := g.tb b ps q
    exact ⟨ps', by rw [upd_ne (fun w => by rw [w, h] at q'; cases q')]; exact q'⟩
  nw := g.nw
  dk := fun k' e' => by
    rw [e] at e'
    cases e'
    obtain ⟨ne, ⟨cells0, m0, t0, h1, h2, h3⟩, g1, g2, g3, g4, g5⟩ := g.dk k e
    refine ⟨ne, ⟨cells, m0, t0, by rw [upd_ne ne]; exact h1, upd_same, hz⟩, g1, g2, fun r hr => ?_, g4, fun b ps q => by
      by_cases e : b = k.l
      · rw [e, upd_same] at q; cases q
      · rw [upd_ne e] at q; exact g5 b ps q⟩
    obtain ⟨ps, q1, q2, q3⟩ := g3 r hr
    refine ⟨ps, by rw [upd_ne (fun w => by rw [w, h] at q1; cases q1)]; exact q1, q2, fun pos cv hcv => ?_⟩
    obtain ⟨c, e1, e2⟩ := q3 pos cv hcv
    exact ⟨c, e1, by rw [upd_ne (fun w => by rw [w, h] at e2; unfold LamX.CodeO at e2; cases e2)]; exact e2⟩
theorem lst_plain {vs : List V} {H : Hp} {p : Addr} (h : H p = some (.lst vs)) : ∃ u, H p = some u ∧ (∀ c q, u ≠ LamX.CodeO c q) ∧ ∀ ps, u ≠ .tbl ps := ⟨_, h, fun c q e => (by unfold LamX.CodeO at e; cases e), fun ps e => (by cases e)⟩
theorem dK_plain {vs : List (Key × V)} {H : Hp} {p : Addr} (h : H p = some (.dK vs)) : ∃ u, H p = some u ∧ (∀ c q, u ≠ LamX.CodeO c q) ∧ ∀ ps, u ≠ .tbl ps := ⟨_, h, fun c q e => (by unfold LamX.CodeO at e; cases e), fun ps e => (by cases e)⟩
end

/-! ### slots -/
inductive Sl where
  | un
  | d (x : PyData)
  | l (xs : List PyData)
  | k (kvs : List (Key × PyData))
  | t (kvs : List (List Key × PyData))
  | dk
abbrev Env' := List Sl
def KvAll {κ : Type} (K : PySem.W.Frag) (G : Hp) : List (κ × V) → List (κ × PyData) → Prop := Paired fun p q => p.1 = q.1 ∧ Dq K G p.2 q.2
theorem kva_mono {κ : Type} {K : PySem.W.Frag} {G G' : Hp} (e : Same G G') : ∀ {ws : List (κ × V)} {kvs : List (κ × PyData)}, KvAll K G ws kvs → KvAll K G' ws kvs
  | _, _, .nil => .nil
  | _, _, .cons h a => .cons ⟨h.1, dp_mono e _ _ h.2⟩ (kva_mono e a)
structure Fx where
  H0 : Hp
  G0 : Hp
  dk : DK
def SlOk (K : PySem.W.Frag) (dk : DK) (σ : St) (H G : Hp) (ow : List Addr) (i : Nat) : Sl → Prop
  | .un => ow = []
  | .d x => ow = [] ∧ ∃ v, σ[i]? = some (some v) ∧ Dq K G v x
  | .l xs => ∃ p vs, ow = [p] ∧ σ[i]? = some (some (.ref p)) ∧ H p = some (.lst vs) ∧ DqAll K G vs xs
  | .k kvs => ∃ p ws, ow = [p] ∧ σ[i]? = some (some (.ref p)) ∧ H p = some (.dK ws) ∧ KvAll K G ws kvs
  | .t kvs => ∃ p ws, ow = [p] ∧ σ[i]? = some (some (.ref p)) ∧ H p = some (.dT ws) ∧ KvAll K G ws kvs
  | .dk => ow = [] ∧ ∃ k, dk = some k ∧ σ[i]? = some (some (.ref k.a))
structure Rep (K : PySem.W.Frag) (F : Fx) (ρ : Env') (σ : St) (H G : Hp) (ow : Nat → List Addr) : Prop where
  s0 : Same F.G0 F.H0
  d0 : DkOk F.dk F.H0 F.G0
  gr : Grow F.dk F.H0 F.G0 H G
  len : σ.length = ρ.length
  sl : ∀ i s, ρ[i]? = some s → SlOk K F.dk σ H G (ow i) i s
  fr : ∀ i p, p ∈ ow i → G p = none ∧ F.H0 p = none ∧ H p ≠ none
  dj : ∀ i j p, p ∈ ow i → p ∈ ow j → i = j
section
variable {K : PySem.W.Frag} {F : Fx} {ρ : Env'} {σ : St} {H G H' G' : Hp} {ow : Nat → List Addr}
theorem Rep.notdk (R : Rep K F ρ σ H G ow) {i : Nat} {p : Addr} (h : p ∈ ow i) : ¬ InDk F.dk p := fun z => by
  have := (R.d0.there z).1
  exact this (R.fr i p h).2.1
theorem Rep.dkok (R : Rep K F ρ σ H G ow) : DkOk F.dk H G := R.gr.dk
theorem Rep.grow (R : Rep K F ρ σ H G ow) (g : Grow F.dk H G H' G') : Rep K F ρ σ H' G' ow where
  s0 := R.s0
  d0 := R.d0
  gr := R.gr.trans g R.d0
  len := R.len
  sl := fun i s e => by
    have q := R.sl i s e
    have nd : ∀ p, p ∈ ow i → ¬ InDk F.dk p := fun p h => R.notdk h
    cases s with
    | un => exact (show ow i = [] from q)
    | d x => obtain ⟨h0, v, h1, h2⟩ := q; exact ⟨h0, v, h1, dp_mono g.gg _ _ h2⟩
    | l xs => obtain ⟨p, vs, h0, h1, h2, h3⟩ := q; exact ⟨p, vs, h0, h1, g.hh _ _ (nd p (by rw [h0]; simp)) h2 (fun _ e => by cases e), dpa_mono g.gg _ _ h3⟩
    | k kvs => obtain ⟨p, vs, h0, h1, h2, h3⟩ := q; exact ⟨p, vs, h0, h1, g.hh _ _ (nd p (by rw [h0]; simp)) h2 (fun _ e => by cases e), kva_mono g.gg h3⟩
    | t kvs => obtain ⟨p, vs, h0, h1, h2, h3⟩ := q; exact ⟨p, vs, h0, h1, g.hh _ _ (nd p (by rw [h0]; simp)) h2 (fun _ e => by cases e), kva_mono g.gg h3⟩
    | dk => exact (show ow i = [] ∧ ∃ k, F.dk = some k ∧ σ[i]? = some (some (.ref k.a)) from q)
  fr := fun i p h => by
    obtain ⟨h1, h2, h3⟩ := R.fr i p h
    refine ⟨?_, h2, fun z => h3 (g.th R.dkok z)⟩
    cases e : G' p with
    | none => rfl
    | some o =>
      rcases g.nw p o e with z | z
      · rw [h1] at z; cases z
      · exact absurd z h3
  dj := R.dj
theorem Rep.refl (R : Rep K F ρ σ H G ow) : Grow F.dk H G H G := Grow.refl R.gr.sub R.gr.dk
end
end DL
set_option maxRecDepth 100000
set_option maxHeartbeats 2000000
/-! # The data layer: expressions -/
namespace DL
open PySem PySem.Spec L2

abbrev WE := Env' → (PyData → Prop) → Prop
abbrev WT := Env' → (Bool → Prop) → Prop
abbrev WA := Env' → (List PyData → Prop) → Prop
def Mono {α : Type} (w : Env' → (α → Prop) → Prop) : Prop := ∀ ρ Q Q', (∀ d, Q d → Q' d) → w ρ Q → w ρ Q'
def liftE (K : PySem.W.Frag) (F : Fx) (w : WE) : TE := fun σ H Q => ∃ ρ G ow, Rep K F ρ σ H G ow ∧ w ρ fun d => ∀ v H' G', Grow F.dk H G H' G' → Dq K G' v d → Q v H'
def liftT (K : PySem.W.Frag) (F : Fx) (w : WT) : TT := fun σ H Q => ∃ ρ G ow, Rep K F ρ σ H G ow ∧ w ρ fun b => ∀ H' G', Grow F.dk H G H' G' → Q b H'
def liftA (K : PySem.W.Frag) (F : Fx) (w : WA) : TA := fun σ H Q => ∃ ρ G ow, Rep K F ρ σ H G ow ∧ w ρ fun ds => ∀ vs H' G', Grow F.dk H G H' G' → DqAll K G' vs ds → Q vs H'
/-- a fresh list, not yet read as data -/
def liftL (K : PySem.W.Frag) (F : Fx) (w : WA) : TE := fun σ H Q => ∃ ρ G ow, Rep K F ρ σ H G ow ∧ w ρ fun ds => ∀ p vs H' G', Grow F.dk H G H' G' → H p = none → G' p = none → H' p = some (.lst vs) → DqAll K G' vs ds → Q (.ref p) H'
structure SE (X : Cx) (F : Fx) (e : Expr) (w : WE) : Prop where
  pe : PE X e (liftE X.K F w)
  mono : Mono w
structure ST (X : Cx) (F : Fx) (e : Expr) (w : WT) : Prop where
  pt : PT X e (liftT X.K F w)
  mono : Mono w
structure SA (X : Cx) (F : Fx) (es : List Expr) (w : WA) : Prop where
  pa : PA X es (liftA X.K F w)
  mono : Mono w
structure SEL (X : Cx) (F : Fx) (e : Expr) (w : WA) : Prop where
  pe : PE X e (liftL X.K F w)
  mono : Mono w
theorem pe_imp {X : Cx} {e : Expr} {t t' : TE} (h : PE X e t) (k : ∀ σ H Q, t' σ H Q → t σ H Q) : PE X e t' := ⟨fun pins s σ H Q I q => h.run pins s σ H Q I (k σ H Q q)⟩
theorem pt_imp {X : Cx} {e : Expr} {t t' : TT} (h : PT X e t) (k : ∀ σ H Q, t' σ H Q → t σ H Q) : PT X e t' := ⟨fun pins s σ H Q I q => h.run pins s σ H Q I (k σ H Q q)⟩
theorem pa_imp {X : Cx} {es : List Expr} {t t' : TA} (h : PA X es t) (k : ∀ σ H Q, t' σ H Q → t σ H Q) : PA X es t' := ⟨fun pos pins s σ H Q I q => h.run pos pins s σ H Q I (k σ H Q q)⟩

section
variable {X : Cx} {F : Fx} {a b c : Expr} {es : List Expr} {pos : Pos} {wa wb wc : WE}

/-! ### names and constants -/
def wVar (i : Nat) : WE := fun ρ Q => ∃ d, ρ[i]? = some (.d d) ∧ Q d
def wC (d : PyData) : WE := fun _ Q => Q d
theorem se_var {i : Nat} {e : Expr} (h : PE X e (tVar i)) : SE X F e (wVar i) := by
  refine ⟨pe_imp h ?_, fun ρ Q Q' k ⟨d, h1, h2⟩ => ⟨d, h1, k _ h2⟩⟩
  rintro σ H Q ⟨ρ, G, ow, R, d, hd, q⟩
  obtain ⟨_, v, hv, dp⟩ := R.sl i _ hd
  exact ⟨v, hv, q v H G R.refl dp⟩
theorem se_c {e : Expr} {v : V} {d : PyData} (h : PE X e (tC v)) (r : ∀ G, Dq X.K G v d) : SE X F e (wC d) := by
  refine ⟨pe_imp h ?_, fun ρ Q Q' k h => k _ h⟩
  rintro σ H Q ⟨ρ, G, ow, R, q⟩
  exact q v H G R.refl (r G)
theorem se_int {i j pos} : SE X F (.Constant (.int i) j pos) (wC (.int i)) := se_c pe_int fun _ => .int i
theorem se_bl {i j pos} : SE X F (.Constant (.bool i) j pos) (wC (.bool i)) := se_c pe_bl fun _ => .bl i
theorem se_str {i j pos} : SE X F (.Constant (.str i) j pos) (wC (.str i)) := se_c pe_str fun _ => .str i
theorem se_non {j pos} : SE X F (.Constant .none j pos) (wC .none) := se_c pe_non fun _ => .non
/-- a text that a module's name holds -/
theorem se_gstr {x : Str} {z : Str} {u : Value} {pos : Pos} (hg : Gl X x) (hm : X.mg x = some u) (r : RelV (.str z) u) (hd : (x == ("__debug__" : Str)) = false := by decide) : SE X F (.Name x pos) (wC (.str z)) := se_c (pe_glob hg hm r hd) fun _ => .str z
/-- a tuple of texts that stands in the written part -/
theorem se_gtup {x : Str} {p : Addr} {vs : List V} {ds : List PyData} {pos : Pos} (hg : Gl X x) (hm : X.mg x = some (.ref p)) (h : ∀ G, SqT X.K G p vs) (ha : ∀ G, DqAll X.K G vs ds) (hd : (x == ("__debug__" : Str)) = false := by decide) : SE X F (.Name x pos) (wC (.tuple ds)) :=
  se_c (v := .ref p) (pe_glob hg hm rfl hd) fun G => .tup (h G) (ha G)

/-! ### flat answers -/
def Fl : PyData → V → Prop
  | .none, v => v = .non
  | .bool b, v => v = .bl b
  | .int i, v => v = .int i
  | .str s, v => v = .str s
  | _, _ => False
theorem Fl.dp {K : PySem.W.Frag} {G : Hp} : ∀ {d : PyData} {v : V}, Fl d v → Dq K G v d
  | .none, _, h => by cases h; exact .non
  | .bool b, _, h => by cases h; exact .bl b
  | .int i, _, h => by cases h; exact .int i
  | .str s, _, h => by cases h; exact .str s
  | .list _, _, h => h.elim
  | .tuple _, _, h => h.elim
  | .dict _, _, h => h.elim
def w2 (f : PyData → PyData → Option PyData) (wa wb : WE) : WE := fun ρ Q => wa ρ fun x => wb ρ fun y => ∃ z, f x y = some z ∧ Q z
def w1 (f : PyData → Option PyData) (wa : WE) : WE := fun ρ Q => wa ρ fun x => ∃ z, f x = some z ∧ Q z
theorem w2_mono {f : PyData → PyData → Option PyData} (ha : Mono wa) (hb : Mono wb) : Mono (w2 f wa wb) := fun ρ Q Q' k h => ha ρ _ _ (fun x h => hb ρ _ _ (fun y ⟨z, e, q⟩ => ⟨z, e, k _ q⟩) h) h
theorem w1_mono {f : PyData → Option PyData} (ha : Mono wa) : Mono (w1 f wa) := fun ρ Q Q' k h => ha ρ _ _ (fun x ⟨z, e, q⟩ => ⟨z, e, k _ q⟩) h
/-- what an operator's rule gives on data: the answer's value, the heaps behind -/
def Op2 (K : PySem.W.Frag) (r : R2) (f : PyData → PyData → Option PyData) : Prop := ∀ (dk : DK) (x y : V) (d1 d2 z : PyData) (H G : Hp) (Q : VK), Same G H → DkOk dk H G → Dq K G x d1 → Dq K G y d2 → f d1 d2 = some z →
  (∀ v H' G', Grow dk H G H' G' → Dq K G' v z → Q v H') → r x y H Q
theorem op2_lift {r : R2} {f : PyData → PyData → Option PyData} (h : Op2 X.K r f) (ha : SE X F a wa) (hb : SE X F b wb) {σ : St} {H : Hp} {Q : VK} (q : liftE X.K F (w2 f wa wb) σ H Q) : tOp r (liftE X.K F wa) (liftE X.K F wb) σ H Q := by
  obtain ⟨ρ, G, ow, R, q⟩ := q
  refine ⟨ρ, G, ow, R, ha.mono ρ _ _ (fun x q v H1 G1 g1 d1 => ?_) q⟩
  have R1 := R.grow g1
  refine ⟨ρ, G1, ow, R1, hb.mono ρ _ _ (fun y q u H2 G2 g2 d2 => ?_) q⟩
  obtain ⟨z, e, q⟩ := q
  have R2 := R1.grow g2
  exact h F.dk v u x y z H2 G2 Q R2.gr.sub R2.dkok (dp_mono g2.gg _ _ d1) d2 e fun v' H3 G3 g3 d3 => q v' H3 G3 ((g1.trans g2 R.dkok).trans g3 R.dkok) d3
theorem se_op {op : Operator} {r : R2} {f : PyData → PyData → Option PyData} (ho : OpR X (binaryOp op) r) (h : Op2 X.K r f) (ha : SE X F a wa) (hb : SE X F b wb) : SE X F (.BinOp a op b pos) (w2 f wa wb) :=
  ⟨pe_imp (pe_op ho ha.pe hb.pe) fun _ _ _ q => op2_lift h ha hb q, w2_mono ha.mono hb.mono⟩
theorem se_cmp {op : CmpOp} {r : R2} {f : PyData → PyData → Option PyData} (ho : OpR X (compareOp op) r) (h : Op2 X.K r f) (ha : SE X F a wa) (hb : SE X F b wb) (hm : behindInMarks op b = false) : SE X F (.Compare a [op] [b] pos) (w2 f wa wb) :=
  ⟨pe_imp (pe_cmpR ho ha.pe hb.pe hm) fun _ _ _ q => op2_lift h ha hb q, w2_mono ha.mono hb.mono⟩
def wTst (w : WE) : WT := fun ρ Q => w ρ fun d => ∃ b, d = .bool b ∧ Q b
theorem wTst_mono {w : WE} (h : Mono w) : Mono (wTst w) := fun ρ Q Q' k q => h ρ _ _ (fun d ⟨b, e, q⟩ => ⟨b, e, k _ q⟩) q
theorem st_cmp {op : CmpOp} {r : R2} {f : PyData → PyData → Option PyData} (ho : OpR X (compareOp op) r) (h : Op2 X.K r f) (ha : SE X F a wa) (hb : SE X F b wb) (hm : behindInMarks op b = false) : ST X F (.Compare a [op] [b] pos) (wTst (w2 f wa wb)) := by
  refine ⟨pt_imp (pt_cmpR ho ha.pe hb.pe hm) fun σ H Q q => ?_, wTst_mono (w2_mono ha.mono hb.mono)⟩
  obtain ⟨ρ, G, ow, R, q⟩ := q
  refine op2_lift h ha hb (Q := fun x H' => ∃ k, x = .bl k ∧ Q k H') ⟨ρ, G, ow, R, w2_mono ha.mono hb.mono ρ _ _ (fun d ⟨b, e, q⟩ v H' G' g dp => ?_) q⟩
  subst e
  cases dp
  exact ⟨b, rfl, q H' G' g⟩
/-- an expression whose value is True or False, as a test -/
theorem st_val (h : SE X F a wa) (he : ∀ whole, isTrue a X.env whole = (do let v ← whole; standAt a.pos; holding [v] (truthy v)) := by intro _; rfl) : ST X F a (wTst wa) := by
  refine ⟨pt_imp (pt_val h.pe he) fun σ H Q q => ?_, wTst_mono h.mono⟩
  obtain ⟨ρ, G, ow, R, q⟩ := q
  refine ⟨ρ, G, ow, R, h.mono ρ _ _ (fun d ⟨b, e, q⟩ v H' G' g dp => ?_) q⟩
  subst e
  cases dp
  exact ⟨b, rfl, q H' G' g⟩

/-! ### and, or, not, if -/
def wAnd (t u : WT) : WT := fun ρ Q => t ρ fun c => if c = true then u ρ Q else Q false
def wOr (t u : WT) : WT := fun ρ Q => t ρ fun c => if c = true then Q true else u ρ Q
def wNot (t : WT) : WT := fun ρ Q => t ρ fun c => Q (!c)
def wIf (t : WT) (wa wb : WE) : WE := fun ρ Q => t ρ fun c => if c = true then wa ρ Q else wb ρ Q
variable {t u : WT} {rest : List Expr}
theorem wAnd_mono (ht : Mono t) (hu : Mono u) : Mono (wAnd t u) := fun ρ Q Q' k q => ht ρ _ _ (fun c q => by
  cases c with
  | true => exact hu ρ _ _ k q
  | false => exact k _ q) q
theorem wOr_mono (ht : Mono t) (hu : Mono u) : Mono (wOr t u) := fun ρ Q Q' k q => ht ρ _ _ (fun c q => by
  cases c with
  | true => exact k _ q
  | false => exact hu ρ _ _ k q) q
theorem wNot_mono (ht : Mono t) : Mono (wNot t) := fun ρ Q Q' k q => ht ρ _ _ (fun c q => k _ q) q
theorem wIf_mono (ht : Mono t) (ha : Mono wa) (hb : Mono wb) : Mono (wIf t wa wb) := fun ρ Q Q' k q => ht ρ _ _ (fun c q => by
  cases c with
  | true => exact ha ρ _ _ k q
  | false => exact hb ρ _ _ k q) q
structure SW (X : Cx) (F : Fx) (e : Expr) (w : WT) : Prop where
  pw : PW X e (liftT X.K F w)
  mono : Mono w
theorem pw_imp {X : Cx} {e : Expr} {t t' : TT} (h : PW X e t) (k : ∀ σ H Q, t' σ H Q → t σ H Q) : PW X e t' := ⟨fun wh pins s σ H Q I q => h.run wh pins s σ H Q I (k σ H Q q)⟩
theorem SW.st (h : SW X F a t) : ST X F a t := ⟨h.pw.pt, h.mono⟩
theorem sw_and1 (h : ST X F a t) : SW X F (.BoolOp .And [a] pos) t := ⟨pw_and1 h.pt, h.mono⟩
theorem sw_or1 (h : ST X F a t) : SW X F (.BoolOp .Or [a] pos) t := ⟨pw_or1 h.pt, h.mono⟩
theorem sw_and (ha : ST X F a t) (hb : SW X F (.BoolOp .And (b :: rest) pos) u) : SW X F (.BoolOp .And (a :: b :: rest) pos) (wAnd t u) := by
  refine ⟨pw_imp (pw_and ha.pt hb.pw) fun σ H Q q => ?_, wAnd_mono ha.mono hb.mono⟩
  obtain ⟨ρ, G, ow, R, q⟩ := q
  refine ⟨ρ, G, ow, R, ha.mono ρ _ _ (fun c q H1 G1 g1 => ?_) q⟩
  cases c with
  | true => exact ⟨ρ, G1, ow, R.grow g1, hb.mono ρ _ _ (fun c q H2 G2 g2 => q H2 G2 (g1.trans g2 R.dkok)) q⟩
  | false => exact q H1 G1 g1
theorem sw_or (ha : ST X F a t) (hb : SW X F (.BoolOp .Or (b :: rest) pos) u) : SW X F (.BoolOp .Or (a :: b :: rest) pos) (wOr t u) := by
  refine ⟨pw_imp (pw_or ha.pt hb.pw) fun σ H Q q => ?_, wOr_mono ha.mono hb.mono⟩
  obtain ⟨ρ, G, ow, R, q⟩ := q
  refine ⟨ρ, G, ow, R, ha.mono ρ _ _ (fun c q H1 G1 g1 => ?_) q⟩
  cases c with
  | true => exact q H1 G1 g1
  | false => exact ⟨ρ, G1, ow, R.grow g1, hb.mono ρ _ _ (fun c q H2 G2 g2 => q H2 G2 (g1.trans g2 R.dkok)) q⟩
theorem st_not (ha : ST X F a t) : ST X F (.UnaryOp .Not a pos) (wNot t) := by
  refine ⟨pt_imp (pt_not ha.pt) fun σ H Q q => ?_, wNot_mono ha.mono⟩
  obtain ⟨ρ, G, ow, R, q⟩ := q
  exact ⟨ρ, G, ow, R, ha.mono ρ _ _ (fun c q H1 G1 g1 => q H1 G1 g1) q⟩
theorem se_if (hc : ST X F c t) (ha : SE X F a wa) (hb : SE X F b wb) : SE X F (.IfExp c a b pos) (wIf t wa wb) := by
  refine ⟨pe_imp (pe_ifExp hc.pt ha.pe hb.pe) fun σ H Q q => ?_, wIf_mono hc.mono ha.mono hb.mono⟩
  obtain ⟨ρ, G, ow, R, q⟩ := q
  refine ⟨ρ, G, ow, R, hc.mono ρ _ _ (fun c q H1 G1 g1 => ?_) q⟩
  cases c with
  | true => exact ⟨ρ, G1, ow, R.grow g1, ha.mono ρ _ _ (fun c q v H2 G2 g2 => q v H2 G2 (g1.trans g2 R.dkok)) q⟩
  | false => exact ⟨ρ, G1, ow, R.grow g1, hb.mono ρ _ _ (fun c q v H2 G2 g2 => q v H2 G2 (g1.trans g2 R.dkok)) q⟩
/-- and, or, not as values: all but the last True or False -/
def wAndV (wa wb : WE) : WE := fun ρ Q => wa ρ fun x => ∃ c, x = .bool c ∧ if c = true then wb ρ Q else Q (.bool false)
def wOrV (wa wb : WE) : WE := fun ρ Q => wa ρ fun x => ∃ c, x = .bool c ∧ if c = true then Q (.bool true) else wb ρ Q
def wNotV (wa : WE) : WE := fun ρ Q => wa ρ fun x => ∃ c, x = .bool c ∧ Q (.bool (!c))
theorem se_one {op} {w : WE} (h : SE X F a w) : SE X F (.BoolOp op [a] pos) w := ⟨pe_one h.pe, h.mono⟩
theorem se_and (ha : SE X F a wa) (hb : SE X F (.BoolOp .And (b :: rest) pos) wb) : SE X F (.BoolOp .And (a :: b :: rest) pos) (wAndV wa wb) := by
  refine ⟨pe_imp (pe_and ha.pe hb.pe) fun σ H Q q => ?_, fun ρ Q Q' k q => ha.mono ρ _ _ (fun x ⟨c, e, q⟩ => ⟨c, e, by
    cases c with
    | true => exact hb.mono ρ _ _ k q
    | false => exact k _ q⟩) q⟩
  obtain ⟨ρ, G, ow, R, q⟩ := q
  refine ⟨ρ, G, ow, R, ha.mono ρ _ _ (fun c q v H1 G1 g1 d1 => ?_) q⟩
  obtain ⟨c, e, q⟩ := q
  subst e
  cases d1
  refine ⟨c, rfl, ?_⟩
  cases c with
  | true => exact ⟨ρ, G1, ow, R.grow g1, hb.mono ρ _ _ (fun c q v H2 G2 g2 => q v H2 G2 (g1.trans g2 R.dkok)) q⟩
  | false => exact q (.bl false) H1 G1 g1 (.bl false)
theorem se_or (ha : SE X F a wa) (hb : SE X F (.BoolOp .Or (b :: rest) pos) wb) : SE X F (.BoolOp .Or (a :: b :: rest) pos) (wOrV wa wb) := by
  refine ⟨pe_imp (pe_or ha.pe hb.pe) fun σ H Q q => ?_, fun ρ Q Q' k q => ha.mono ρ _ _ (fun x ⟨c, e, q⟩ => ⟨c, e, by
    cases c with
    | true => exact k _ q
    | false => exact hb.mono ρ _ _ k q⟩) q⟩
  obtain ⟨ρ, G, ow, R, q⟩ := q
  refine ⟨ρ, G, ow, R, ha.mono ρ _ _ (fun c q v H1 G1 g1 d1 => ?_) q⟩
  obtain ⟨c, e, q⟩ := q
  subst e
  cases d1
  refine ⟨c, rfl, ?_⟩
  cases c with
  | true => exact q (.bl true) H1 G1 g1 (.bl true)
  | false => exact ⟨ρ, G1, ow, R.grow g1, hb.mono ρ _ _ (fun c q v H2 G2 g2 => q v H2 G2 (g1.trans g2 R.dkok)) q⟩
theorem se_not (ha : SE X F a wa) : SE X F (.UnaryOp .Not a pos) (wNotV wa) := by
  refine ⟨pe_imp (pe_not ha.pe) fun σ H Q q => ?_, fun ρ Q Q' k q => ha.mono ρ _ _ (fun x ⟨c, e, q⟩ => ⟨c, e, k _ q⟩) q⟩
  obtain ⟨ρ, G, ow, R, q⟩ := q
  refine ⟨ρ, G, ow, R, ha.mono ρ _ _ (fun c q v H1 G1 g1 d1 => ?_) q⟩
  obtain ⟨c, e, q⟩ := q
  subst e
  cases d1
  exact ⟨c, rfl, q _ H1 G1 g1 (.bl _)⟩

/-! ### argument lists, tuples, lists -/
def wNil : WA := fun _ Q => Q []
def wCons (wa : WE) (wr : WA) : WA := fun ρ Q => wa ρ fun x => wr ρ fun xs => Q (x :: xs)
variable {wr : WA}
theorem sa_nil : SA X F [] wNil := by
  refine ⟨pa_imp pa_nil fun σ H Q q => ?_, fun ρ Q Q' k q => k _ q⟩
  obtain ⟨ρ, G, ow, R, q⟩ := q
  exact q [] H G R.refl .nil
theorem sa_cons {e : Expr} (ha : SE X F e wa) (hr : SA X F es wr) (hs : starEach (e :: es) X.env = (false, eval e X.env) :: starEach es X.env := by rfl) : SA X F (e :: es) (wCons wa wr) := by
  refine ⟨pa_imp (pa_cons ha.pe hr.pa hs) fun σ H Q q => ?_, fun ρ Q Q' k q => ha.mono ρ _ _ (fun x q => hr.mono ρ _ _ (fun xs q => k _ q) q) q⟩
  obtain ⟨ρ, G, ow, R, q⟩ := q
  refine ⟨ρ, G, ow, R, ha.mono ρ _ _ (fun x q v H1 G1 g1 d1 => ?_) q⟩
  exact ⟨ρ, G1, ow, R.grow g1, hr.mono ρ _ _ (fun xs q vs H2 G2 g2 d2 => q (v :: vs) H2 G2 (g1.trans g2 R.dkok) (.cons (dp_mono g2.gg _ _ d1) d2)) q⟩
def wTup (wr : WA) : WE := fun ρ Q => wr ρ fun xs => xs.length ≤ sizeLine ∧ Q (.tuple xs)
theorem se_tup {k} (h : SA X F es wr) : SE X F (.Tuple es k pos) (wTup wr) := by
  refine ⟨pe_imp (pe_tup h.pa) fun σ H Q q => ?_, fun ρ Q Q' k q => h.mono ρ _ _ (fun x ⟨z, q⟩ => ⟨z, k _ q⟩) q⟩
  obtain ⟨ρ, G, ow, R, q⟩ := q
  refine ⟨ρ, G, ow, R, h.mono ρ _ _ (fun xs q vs H1 G1 g1 d1 => ?_) q⟩
  refine ⟨by rw [dpa_len d1]; exact q.1, fun p hp => ?_⟩
  have R1 := R.grow g1
  have g2 := Grow.new (o := .tup vs) R1.gr.sub R1.dkok hp
  exact q.2 (.ref p) _ _ (g1.trans g2 R.dkok) (.tup (.inl (.inl upd_same)) (dpa_mono g2.gg _ _ d1))
def wLst (wr : WA) : WA := fun ρ Q => wr ρ fun xs => xs.length ≤ sizeLine ∧ Q xs
theorem sl_lst (h : SA X F es wr) : SEL X F (.List es pos) (wLst wr) := by
  refine ⟨pe_imp (pe_lst h.pa) fun σ H Q q => ?_, fun ρ Q Q' k q => h.mono ρ _ _ (fun x ⟨z, q⟩ => ⟨z, k _ q⟩) q⟩
  obtain ⟨ρ, G, ow, R, q⟩ := q
  refine ⟨ρ, G, ow, R, h.mono ρ _ _ (fun xs q vs H1 G1 g1 d1 => ?_) q⟩
  refine ⟨by rw [dpa_len d1]; exact q.1, fun p hp => ?_⟩
  have R1 := R.grow g1
  have g2 := Grow.newH (o := .lst vs) R1.gr.sub R1.dkok hp
  have h0 : H p = none := g1.th R.dkok hp
  have g0 : G1 p = none := by
    cases e : G1 p with
    | none => rfl
    | some o => rw [g1.sub p o e] at hp; cases hp
  exact q.2 p vs _ _ (g1.trans g2 R.dkok) h0 g0 upd_same d1
/-- a fresh list read as data -/
def wAsL (wr : WA) : WE := fun ρ Q => wr ρ fun xs => Q (.list xs)
theorem SEL.se {e : Expr} (h : SEL X F e wr) : SE X F e (wAsL wr) := by
  refine ⟨pe_imp h.pe fun σ H Q q => ?_, fun ρ Q Q' k q => h.mono ρ _ _ (fun x q => k _ q) q⟩
  obtain ⟨ρ, G, ow, R, q⟩ := q
  refine ⟨ρ, G, ow, R, h.mono ρ _ _ (fun xs q p vs H1 G1 g1 h0 g0 h1 d1 => ?_) q⟩
  have g2 := g1.show R.dkok h0 h1
  have s : Same G1 (upd G1 p (.lst vs)) := fun b o e => by rw [upd_ne (ne_of_none e g0)]; exact e
  exact q (.ref p) H1 _ g2 (.lst upd_same (dpa_mono s _ _ d1))
end
end DL
set_option maxRecDepth 100000
set_option maxHeartbeats 2000000
/-! # The data layer: operators, subscripts, slices, isinstance -/
namespace DL
open PySem PySem.Spec L2

section
variable {K : PySem.W.Frag}
theorem grow_refl {dk : DK} {H G : Hp} (s : Same G H) (d : DkOk dk H G) : Grow dk H G H G := Grow.refl s d
/-- a new tuple, a new list of data -/
theorem new_tup {dk : DK} {H G : Hp} {vs : List V} {ds : List PyData} {p : Addr} {Q : VK} (s : Same G H) (d : DkOk dk H G) (ha : DqAll K G vs ds) (hp : H p = none)
    (q : ∀ v H' G', Grow dk H G H' G' → Dq K G' v (.tuple ds) → Q v H') : Q (.ref p) (upd H p (.tup vs)) := by
  have g := Grow.new (o := .tup vs) s d hp
  exact q _ _ _ g (.tup (.inl (.inl upd_same)) (dpa_mono g.gg _ _ ha))
theorem new_lst {dk : DK} {H G : Hp} {vs : List V} {ds : List PyData} {p : Addr} {Q : VK} (s : Same G H) (d : DkOk dk H G) (ha : DqAll K G vs ds) (hp : H p = none)
    (q : ∀ v H' G', Grow dk H G H' G' → Dq K G' v (.list ds) → Q v H') : Q (.ref p) (upd H p (.lst vs)) := by
  have g := Grow.new (o := .lst vs) s d hp
  exact q _ _ _ g (.lst upd_same (dpa_mono g.gg _ _ ha))

/-! ### numbers, texts, + -/
def addD : PyData → PyData → Option PyData
  | .int i, .int j => some (.int (i + j))
  | .str x, .str y => if x.length + y.length ≤ sizeLine then some (.str (x ++ y)) else none
  | .tuple xs, .tuple ys => if xs.length + ys.length ≤ sizeLine then some (.tuple (xs ++ ys)) else none
  | .list xs, .list ys => if xs.length + ys.length ≤ sizeLine then some (.list (xs ++ ys)) else none
  | _, _ => none
theorem dqa_nil {G : Hp} {vs : List V} {ds : List PyData} (h : DqAll K G vs ds) : vs = [] ↔ ds = [] := by
  cases h <;> simp
variable {X : Cx}
abbrev rAddD (K : PySem.W.Frag) : R2 := fun x y H Q => (rI0 fun i j => .int (i + j)) x y H Q ∨ (∃ i j, x = .str i ∧ y = .str j ∧ i.length + j.length ≤ sizeLine ∧ Q (.str (i ++ j)) H) ∨ rCatA K x y H Q ∨ rCat x y H Q
theorem op_addD : OpR X (binaryOp .Add) (rAddD X.K) := op_add.or (op_add_str.or (op_catA.or op_cat))
theorem op2_add : Op2 K (rAddD K) addD := by
  intro dk x y d1 d2 z H G Q s d a b e q
  cases a with
  | int i =>
    cases b with
    | int j => cases e; exact .inl ⟨i, j, rfl, rfl, q _ H G (grow_refl s d) (.int _)⟩
    | _ => cases e
  | str i =>
    cases b with
    | str j =>
      simp only [addD] at e
      split at e
      · cases e; exact .inr (.inl ⟨i, j, rfl, rfl, by assumption, q _ H G (grow_refl s d) (.str _)⟩)
      · cases e
    | _ => cases e
  | tup h1 a1 =>
    cases b with
    | tup h2 a2 =>
      simp only [addD] at e
      split at e
      · rename_i hz
        cases e
        refine .inr (.inr (.inl ⟨_, _, _, _, rfl, rfl, st_mono s h1, st_mono s h2, by rw [dpa_len a1, dpa_len a2]; exact hz, fun e0 => ?_, fun _ e0 => ?_, fun _ _ p hp => ?_⟩))
        · have := (dqa_nil a1).mp e0
          subst this
          exact q _ H G (grow_refl s d) (.tup h2 a2)
        · have := (dqa_nil a2).mp e0
          subst this
          rw [List.append_nil] at q
          exact q _ H G (grow_refl s d) (.tup h1 a1)
        · exact new_tup s d (dpa_app a1 a2) hp q
      · cases e
    | _ => cases e
  | lst h1 a1 =>
    cases b with
    | lst h2 a2 =>
      simp only [addD] at e
      split at e
      · rename_i hz
        cases e
        exact .inr (.inr (.inr ⟨_, _, _, _, rfl, rfl, s _ _ h1, s _ _ h2, by rw [dpa_len a1, dpa_len a2]; exact hz, fun p hp => new_lst s d (dpa_app a1 a2) hp q⟩))
      · cases e
    | _ => cases e
  | _ => cases b <;> cases e
/-- an operation of two whole numbers -/
def i2 (C : Int → Int → Bool) (g : Int → Int → PyData) : PyData → PyData → Option PyData
  | .int i, .int j => if C i j = true then some (g i j) else none
  | _, _ => none
theorem op2_i {C : Int → Int → Prop} {c : Int → Int → Bool} {g : Int → Int → V} {gd : Int → Int → PyData} (hc : ∀ i j, c i j = true → C i j) (hg : ∀ i j, Fl (gd i j) (g i j)) : Op2 K (rI C g) (i2 c gd) := by
  intro dk x y d1 d2 z H G Q s d a b e q
  cases a with
  | int i =>
    cases b with
    | int j =>
      simp only [i2] at e
      split at e
      · cases e
        exact ⟨i, j, rfl, rfl, hc i j (by assumption), q _ H G (grow_refl s d) (hg i j).dp⟩
      · cases e
    | _ => cases e
  | _ => cases b <;> cases e
theorem op2_i0 {g : Int → Int → V} {gd : Int → Int → PyData} (hg : ∀ i j, Fl (gd i j) (g i j)) : Op2 K (rI0 g) (i2 (fun _ _ => true) gd) := by
  intro dk x y d1 d2 z H G Q s d a b e q
  cases a with
  | int i =>
    cases b with
    | int j =>
      cases e
      exact ⟨i, j, rfl, rfl, q _ H G (grow_refl s d) (hg i j).dp⟩
    | _ => cases e
  | _ => cases b <;> cases e
abbrev subD := i2 (fun _ _ => true) fun i j => .int (i - j)
theorem op2_sub : Op2 K (rI0 fun i j => .int (i - j)) subD := op2_i0 fun _ _ => rfl
def cMul (i j : Int) : Bool := (decide (-(2 ^ 64) < i) && decide (i < 2 ^ 64)) || (decide (-(2 ^ 64) < j) && decide (j < 2 ^ 64))
abbrev mulD := i2 cMul fun i j => .int (i * j)
theorem op2_mul : Op2 K (rI CMul fun i j => .int (i * j)) mulD := op2_i (fun i j h => by simpa [cMul, CMul] using h) fun _ _ => rfl
abbrev modD := i2 (fun _ j => decide (0 < j)) fun i j => .int (i % j)
theorem op2_mod : Op2 K (rI (fun _ j => 0 < j) fun i j => .int (i % j)) modD := op2_i (fun i j h => by simpa using h) fun _ _ => rfl
abbrev fdivD := i2 (fun _ j => decide (0 < j) && decide (j.natAbs.log2 < 9000)) fun i j => .int (i / j)
theorem op2_fdiv : Op2 K (rI CDivW fun i j => .int (i / j)) fdivD := op2_i (fun i j h => by simpa [CDivW] using h) fun _ _ => rfl
abbrev ltD := i2 (fun _ _ => true) fun i j => .bool (decide (i < j))
abbrev leD := i2 (fun _ _ => true) fun i j => .bool (decide (i ≤ j))
abbrev gtD := i2 (fun _ _ => true) fun i j => .bool (decide (j < i))
abbrev geD := i2 (fun _ _ => true) fun i j => .bool (decide (j ≤ i))
theorem op2_lt : Op2 K (rI0 fun i j => .bl (decide (i < j))) ltD := op2_i0 fun _ _ => rfl
theorem op2_le : Op2 K (rI0 fun i j => .bl (decide (i ≤ j))) leD := op2_i0 fun _ _ => rfl
theorem op2_gt : Op2 K (rI0 fun i j => .bl (decide (j < i))) gtD := op2_i0 fun _ _ => rfl
theorem op2_ge : Op2 K (rI0 fun i j => .bl (decide (j ≤ i))) geD := op2_i0 fun _ _ => rfl

/-! ### == and != of data -/
def cmpOk (d e : PyData) : Bool := d.canLay0 && e.canLay0 && decide (min d.depth e.depth ≤ 64)
def eqD (d e : PyData) : Option PyData := if cmpOk d e = true then some (.bool (PyData.eqv d e)) else none
def neD (d e : PyData) : Option PyData := if cmpOk d e = true then some (.bool (!PyData.eqv d e)) else none
def rEqQ (K : PySem.W.Frag) : R2 := fun x y H Q => ∃ d e, Dp K H x d ∧ Dp K H y e ∧ cmpOk d e = true ∧ Q (.bl (PyData.eqv d e)) H
def rNeQ (K : PySem.W.Frag) : R2 := fun x y H Q => ∃ d e, Dp K H x d ∧ Dp K H y e ∧ cmpOk d e = true ∧ Q (.bl (!PyData.eqv d e)) H
theorem cmpOk_of {d e : PyData} (h : cmpOk d e = true) : d.canLay0 = true ∧ e.canLay0 = true ∧ min d.depth e.depth ≤ 64 := by
  unfold cmpOk at h
  simp only [Bool.and_eq_true, decide_eq_true_eq] at h
  exact ⟨h.1.1, h.1.2, h.2⟩
theorem op_eqQ (hu : X.A.units + 64 < cLine) : OpR X (compareOp .Eq) (rEqQ X.K) := by
  intro pins s σ H x y v u Q I rx ry h
  obtain ⟨d, e, hd, he, c, q⟩ := h
  obtain ⟨h1, h2, h3⟩ := cmpOk_of c
  obtain ⟨as, r1⟩ := Dp.reads I d x v hd rx
  obtain ⟨bs, r2⟩ := Dp.reads I e y u he ry
  exact SeqAt.compareEq_reads r1 r2 h1 h2 (by omega) ⟨.bl _, H, I, rfl, q⟩
theorem op_neQ (hu : X.A.units + 64 < cLine) : OpR X (compareOp .NotEq) (rNeQ X.K) := by
  intro pins s σ H x y v u Q I rx ry h
  obtain ⟨d, e, hd, he, c, q⟩ := h
  obtain ⟨h1, h2, h3⟩ := cmpOk_of c
  obtain ⟨as, r1⟩ := Dp.reads I d x v hd rx
  obtain ⟨bs, r2⟩ := Dp.reads I e y u he ry
  exact SeqAt.compareNe_reads r1 r2 h1 h2 (by omega) ⟨.bl _, H, I, rfl, q⟩
theorem op2_eq : Op2 K (rEqQ K) eqD := by
  intro dk x y d1 d2 z H G Q s d a b e q
  unfold eqD at e
  split at e
  · cases e
    exact ⟨d1, d2, Dq.dp _ _ (dp_mono s _ _ a), Dq.dp _ _ (dp_mono s _ _ b), by assumption, q _ H G (grow_refl s d) (.bl _)⟩
  · cases e
theorem op2_ne : Op2 K (rNeQ K) neD := by
  intro dk x y d1 d2 z H G Q s d a b e q
  unfold neD at e
  split at e
  · cases e
    exact ⟨d1, d2, Dq.dp _ _ (dp_mono s _ _ a), Dq.dp _ _ (dp_mono s _ _ b), by assumption, q _ H G (grow_refl s d) (.bl _)⟩
  · cases e

/-! ### one sign in a text; a text in a tuple or list of texts; is None -/
def inSg (neg : Bool) : PyData → PyData → Option PyData
  | .str x, .str z => match x.cps.toList with
    | [c] => some (.bool (if neg then !decide (c ∈ z.cps.toList) else decide (c ∈ z.cps.toList)))
    | _ => none
  | _, _ => none
def rInS (neg : Bool) : R2 := fun x y H Q => ∃ (c : Nat) (z : Str), x = .str ⟨#[c]⟩ ∧ y = .str z ∧ Q (.bl (if neg then !decide (c ∈ z.cps.toList) else decide (c ∈ z.cps.toList))) H
theorem op_inS0 : OpR X (compareOp .In) (DL.rInS false) := op_in_sign
theorem op_inS1 : OpR X (compareOp .NotIn) (DL.rInS true) := op_notIn_sign
theorem one_sign {x : Str} {c : Nat} (h : x.cps.toList = [c]) : x = ⟨#[c]⟩ := by
  obtain ⟨a⟩ := x
  congr
  exact Array.toList_inj.mp h
theorem op2_inS {neg : Bool} : Op2 K (DL.rInS neg) (inSg neg) := by
  intro dk x y d1 d2 z H G Q s d a b e q
  cases a with
  | str i =>
    cases b with
    | str j =>
      simp only [inSg] at e
      split at e
      · rename_i c hc
        cases e
        exact ⟨c, j, by rw [one_sign hc], rfl, q _ H G (grow_refl s d) (.bl _)⟩
      · cases e
    | _ => cases e
  | _ => cases b <;> cases e
def strOf : PyData → Option Str
  | .str x => some x
  | _ => none
def strsOf : List PyData → Option (List Str)
  | [] => some []
  | .str x :: r => (strsOf r).map (x :: ·)
  | _ :: _ => none
theorem strsOf_eq : ∀ {ds : List PyData} {xs : List Str}, strsOf ds = some xs → ds = xs.map .str
  | [], _, h => by cases h; rfl
  | .str x :: r, xs, h => by
    cases e : strsOf r with
    | none => simp [strsOf, e] at h
    | some ys =>
      simp [strsOf, e] at h
      subst h
      rw [List.map_cons, strsOf_eq e]
  | .none :: _, _, h => by simp [strsOf] at h
  | .bool _ :: _, _, h => by simp [strsOf] at h
  | .int _ :: _, _, h => by simp [strsOf] at h
  | .list _ :: _, _, h => by simp [strsOf] at h
  | .tuple _ :: _, _, h => by simp [strsOf] at h
  | .dict _ :: _, _, h => by simp [strsOf] at h
theorem strsOf_map (xs : List Str) : strsOf (xs.map .str) = some xs := by
  induction xs with
  | nil => rfl
  | cons x xs ih => simp [strsOf, ih]
theorem dqa_strs {G : Hp} : ∀ {vs : List V} {xs : List Str}, DqAll K G vs (xs.map .str) → vs = xs.map V.str
  | _, [], h => by cases h; rfl
  | _, x :: xs, h => by
    cases h with
    | cons h a => cases h; rw [List.map_cons, dqa_strs a]
theorem dqa_of_strs {G : Hp} (xs : List Str) : DqAll K G (xs.map V.str) (xs.map .str) := by
  induction xs with
  | nil => exact .nil
  | cons x xs ih => exact .cons (.str x) ih
def inTx (neg : Bool) : PyData → PyData → Option PyData
  | .str x, .tuple ds => (strsOf ds).map fun xs => .bool (if neg then !xs.contains x else xs.contains x)
  | .str x, .list ds => (strsOf ds).map fun xs => .bool (if neg then !xs.contains x else xs.contains x)
  | _, _ => none
theorem inV_strs (x : Str) (xs : List Str) : inV (.str x) (xs.map V.str) = xs.contains x := by
  induction xs with
  | nil => rfl
  | cons y ys ih =>
    have e : inV (.str x) ((y :: ys).map V.str) = (eqV (.str y) (.str x) || inV (.str x) (ys.map V.str)) := rfl
    rw [e, ih, List.contains_cons]
    congr 1
    show (y == x) = (x == y)
    by_cases h : x = y
    · subst h; rfl
    · rw [beq_eq_false_iff_ne.mpr h, beq_eq_false_iff_ne.mpr (Ne.symm h)]
theorem flat_strs (xs : List Str) : (xs.map V.str).all flatV = true := by
  induction xs with
  | nil => rfl
  | cons x xs ih => rw [List.map_cons, List.all_cons, ih]; rfl
theorem op2_inTx {neg : Bool} : Op2 K (rIn K neg) (inTx neg) := by
  intro dk x y d1 d2 z H G Q s d a b e q
  cases a with
  | str i =>
    cases b with
    | tup h2 a2 =>
      simp only [inTx] at e
      cases es : strsOf _ with
      | none => rw [es] at e; cases e
      | some xs =>
        rw [es] at e
        cases e
        have := strsOf_eq es
        subst this
        have := dqa_strs a2
        subst this
        exact ⟨_, _, rfl, .inr (st_mono s h2), rfl, flat_strs xs, q _ H G (grow_refl s d) (by rw [inV_strs]; exact .bl _)⟩
    | lst h2 a2 =>
      simp only [inTx] at e
      cases es : strsOf _ with
      | none => rw [es] at e; cases e
      | some xs =>
        rw [es] at e
        cases e
        have := strsOf_eq es
        subst this
        have := dqa_strs a2
        subst this
        exact ⟨_, _, rfl, .inl (.inl (.inl (s _ _ h2))), rfl, flat_strs xs, q _ H G (grow_refl s d) (by rw [inV_strs]; exact .bl _)⟩
    | _ => cases e
  | _ => cases b <;> cases e
def isNone : PyData → Bool
  | .none => true
  | _ => false
def isND (neg : Bool) : PyData → PyData → Option PyData
  | d, .none => some (.bool (if neg then !isNone d else isNone d))
  | _, _ => none
theorem dq_none {G : Hp} {v : V} {d : PyData} (h : Dq K G v d) : decide (v = .non) = isNone d := by
  cases h <;> simp [isNone]
theorem op2_isN : Op2 K (fun x y H Q => y = .non ∧ Q (.bl (decide (x = .non))) H) (isND false) := by
  intro dk x y d1 d2 z H G Q s d a b e q
  cases b with
  | non =>
    cases e
    exact ⟨rfl, q _ H G (grow_refl s d) (by rw [dq_none a]; exact .bl _)⟩
  | _ => cases e
theorem op2_notN : Op2 K (fun x y H Q => y = .non ∧ Q (.bl (!decide (x = .non))) H) (isND true) := by
  intro dk x y d1 d2 z H G Q s d a b e q
  cases b with
  | non =>
    cases e
    exact ⟨rfl, q _ H G (grow_refl s d) (by rw [dq_none a]; exact .bl _)⟩
  | _ => cases e

/-! ### subscripts -/
def ixD : PyData → PyData → Option PyData
  | .list xs, .int i => atI xs i
  | .tuple xs, .int i => atI xs i
  | .str z, .int i => if z.length ≤ sizeLine then (atI z.cps.toList i).map fun c => .str ⟨#[c]⟩ else none
  | _, _ => none
theorem dqa_atI {G : Hp} {vs : List V} {ds : List PyData} {i : Int} {d : PyData} (h : DqAll K G vs ds) (e : atI ds i = some d) : ∃ v, atI vs i = some v ∧ Dq K G v d := by
  unfold atI at e ⊢
  rw [dpa_len h]
  cases hi : ixN ds.length i with
  | none => rw [hi] at e; cases e
  | some j =>
    rw [hi] at e
    exact dpa_at h e
theorem op2_ix : Op2 K (rIx K) ixD := by
  intro dk x y d1 d2 z H G Q s d a b e q
  cases b with
  | int i =>
    cases a with
    | lst h1 a1 =>
      obtain ⟨v, hv, dv⟩ := dqa_atI a1 e
      exact .inl ⟨_, _, i, v, rfl, rfl, .inl (.inl (s _ _ h1)), hv, q _ H G (grow_refl s d) dv⟩
    | tup h1 a1 =>
      obtain ⟨v, hv, dv⟩ := dqa_atI a1 e
      exact .inr (.inl ⟨_, _, i, v, rfl, rfl, st_mono s h1, hv, q _ H G (grow_refl s d) dv⟩)
    | str t =>
      simp only [ixD] at e
      split at e
      · rename_i hz
        cases ec : atI t.cps.toList i with
        | none => rw [ec] at e; cases e
        | some c =>
          rw [ec] at e
          cases e
          exact .inr (.inr ⟨t, i, c, rfl, rfl, hz, ec, q _ H G (grow_refl s d) (.str _)⟩)
      · cases e
    | _ => cases e
  | _ => cases a <;> cases e
variable {F : Fx} {a b c : Expr} {es : List Expr} {pos p2 : Pos} {wa wb wc : WE}
theorem se_ix (ha : SE X F a wa) (hb : SE X F b wb) (hs : PlainIx b := by intro _ _; rfl) : SE X F (.Subscript a b pos) (w2 ixD wa wb) :=
  ⟨pe_imp (pe_ix ix_seq ha.pe hb.pe hs) fun _ _ _ q => op2_lift op2_ix ha hb q, w2_mono ha.mono hb.mono⟩
/-- an item of a list of the def's own -/
def wIxO (i : Nat) (wb : WE) : WE := fun ρ Q => ∃ xs, ρ[i]? = some (.l xs) ∧ wb ρ fun y => ∃ k z, y = .int k ∧ atI xs k = some z ∧ Q z
theorem se_ixO {i : Nat} (ha : PE X a (tVar i)) (hb : SE X F b wb) (hs : PlainIx b := by intro _ _; rfl) : SE X F (.Subscript a b pos) (wIxO i wb) := by
  refine ⟨pe_imp (pe_ix ix_list ha hb.pe hs) fun σ H Q q => ?_, fun ρ Q Q' k ⟨xs, e, q⟩ => ⟨xs, e, hb.mono ρ _ _ (fun y ⟨j, z, e1, e2, q⟩ => ⟨j, z, e1, e2, k _ q⟩) q⟩⟩
  obtain ⟨ρ, G, ow, R, xs, e, q⟩ := q
  obtain ⟨p, vs, o1, o2, o3, o4⟩ := R.sl i _ e
  refine ⟨.ref p, o2, ρ, G, ow, R, hb.mono ρ _ _ (fun y q v H1 G1 g1 d1 => ?_) q⟩
  obtain ⟨k, z, rfl, ez, q⟩ := q
  cases d1
  have R1 := R.grow g1
  have h1 : H1 p = some (.lst vs) := g1.hh p _ (R.notdk (i := i) (by rw [o1]; simp)) o3 (fun _ e => by cases e)
  obtain ⟨w, hw, dw⟩ := dqa_atI o4 ez
  exact ⟨p, vs, k, w, rfl, rfl, .inl (.inl h1), hw, q w H1 G1 g1 (dp_mono g1.gg _ _ dw)⟩

/-! ### slices -/
abbrev WO := Env' → (Option Int → Prop) → Prop
def liftO (K : PySem.W.Frag) (F : Fx) (w : WO) : TO := fun σ H Q => ∃ ρ G ow, Rep K F ρ σ H G ow ∧ w ρ fun o => ∀ H' G', Grow F.dk H G H' G' → Q o H'
structure SO (X : Cx) (F : Fx) (e : Option Expr) (w : WO) : Prop where
  po : PO X e (liftO X.K F w)
  mono : Mono w
theorem po_imp {X : Cx} {e : Option Expr} {t t' : TO} (h : PO X e t) (k : ∀ σ H Q, t' σ H Q → t σ H Q) : PO X e t' := ⟨fun pins s σ H Q I q => h.run pins s σ H Q I (k σ H Q q)⟩
def wNoO : WO := fun _ Q => Q none
def wO (w : WE) : WO := fun ρ Q => w ρ fun d => ∃ i, d = .int i ∧ Q (some i)
theorem so_none : SO X F none wNoO := by
  refine ⟨po_imp po_none fun σ H Q q => ?_, fun ρ Q Q' k q => k _ q⟩
  obtain ⟨ρ, G, ow, R, q⟩ := q
  exact q H G R.refl
theorem so_some {e : Expr} (h : SE X F e wa) : SO X F (some e) (wO wa) := by
  refine ⟨po_imp (po_some h.pe) fun σ H Q q => ?_, fun ρ Q Q' k q => h.mono ρ _ _ (fun d ⟨i, e, q⟩ => ⟨i, e, k _ q⟩) q⟩
  obtain ⟨ρ, G, ow, R, q⟩ := q
  refine ⟨ρ, G, ow, R, h.mono ρ _ _ (fun d q v H1 G1 g1 d1 => ?_) q⟩
  obtain ⟨i, rfl, q⟩ := q
  cases d1
  exact ⟨i, rfl, q H1 G1 g1⟩
def cutL {α : Type} (xs : List α) (lo hi : Option Int) : List α := (xs.drop (HT.sIx xs.length 0 lo)).take (HT.sIx xs.length xs.length hi - HT.sIx xs.length 0 lo)
def slD : PyData → Option Int → Option Int → Option PyData
  | .list xs, lo, hi => some (.list (cutL xs lo hi))
  | .tuple xs, lo, hi => some (.tuple (cutL xs lo hi))
  | .str z, lo, hi => if z.length ≤ sizeLine then some (.str (cutS z lo hi)) else none
  | _, _, _ => none
theorem dqa_cut {G : Hp} {vs : List V} {ds : List PyData} (lo hi : Option Int) (h : DqAll K G vs ds) : DqAll K G (cutV vs lo hi) (cutL ds lo hi) := by
  unfold cutV cutL
  rw [dpa_len h]
  exact dpa_take _ (dpa_drop _ h)
theorem cut_whole {α : Type} {xs : List α} {lo hi : Option Int} (h : HT.sIx xs.length 0 lo = 0 ∧ HT.sIx xs.length xs.length hi = xs.length) : cutL xs lo hi = xs := by
  unfold cutL
  rw [h.1, h.2]
  simp
abbrev rSlD (K : PySem.W.Frag) : V → Option Int → Option Int → Hp → VK → Prop := fun x lo hi H Q => rSlL K x lo hi H Q ∨ rSlA K x lo hi H Q ∨ ∃ z, x = .str z ∧ z.length ≤ sizeLine ∧ Q (.str (cutS z lo hi)) H
def wSl (wa : WE) (wl wh : WO) : WE := fun ρ Q => wa ρ fun x => wl ρ fun lo => wh ρ fun hi => ∃ z, slD x lo hi = some z ∧ Q z
theorem se_sl {lo hi : Option Expr} {wl wh : WO} (he : SE X F a wa) (hl : SO X F lo wl) (hh : SO X F hi wh) : SE X F (.Subscript a (.Slice lo hi none p2) pos) (wSl wa wl wh) := by
  refine ⟨pe_imp (pe_slice (r := rSlD X.K) (sl_list.or (sl_tupA.or sl_str)) he.pe hl.po hh.po) fun σ H Q q => ?_, fun ρ Q Q' k q => he.mono ρ _ _ (fun x q => hl.mono ρ _ _ (fun l q => hh.mono ρ _ _ (fun h ⟨z, e, q⟩ => ⟨z, e, k _ q⟩) q) q) q⟩
  obtain ⟨ρ, G, ow, R, q⟩ := q
  refine ⟨ρ, G, ow, R, he.mono ρ _ _ (fun x q v H1 G1 g1 d1 => ?_) q⟩
  have R1 := R.grow g1
  refine ⟨ρ, G1, ow, R1, hl.mono ρ _ _ (fun l q H2 G2 g2 => ?_) q⟩
  have R2 := R1.grow g2
  refine ⟨ρ, G2, ow, R2, hh.mono ρ _ _ (fun h q H3 G3 g3 => ?_) q⟩
  have R3 := R2.grow g3
  obtain ⟨z, e, q⟩ := q
  have g := (g1.trans g2 R.dkok).trans g3 R.dkok
  have d3 := dp_mono g3.gg _ _ (dp_mono g2.gg _ _ d1)
  have q' : ∀ v' H' G', Grow F.dk H3 G3 H' G' → Dq X.K G' v' z → Q v' H' := fun v' H' G' g' d' => q v' H' G' (g.trans g' R.dkok) d'
  cases d3 with
  | lst h0 a0 =>
    cases e
    exact .inl ⟨_, _, rfl, .inl (.inl (R3.gr.sub _ _ h0)), fun p hp => new_lst R3.gr.sub R3.dkok (dqa_cut l h a0) hp q'⟩
  | tup h0 a0 =>
    cases e
    refine .inr (.inl ⟨_, _, rfl, st_mono R3.gr.sub h0, fun hw => ?_, fun _ p hp => new_tup R3.gr.sub R3.dkok (dqa_cut l h a0) hp q'⟩)
    rw [dpa_len a0] at hw
    rw [cut_whole hw] at q'
    exact q' _ H3 G3 R3.refl (.tup h0 a0)
  | str t =>
    simp only [slD] at e
    split at e
    · cases e
      exact .inr (.inr ⟨t, rfl, by assumption, q' _ H3 G3 R3.refl (.str _)⟩)
    · cases e
  | _ => cases e
end
end DL
set_option maxRecDepth 100000
set_option maxHeartbeats 2000000
/-! # The data layer: chains, isinstance, calls of built-ins, methods -/
namespace DL
open PySem PySem.Spec L2

section
variable {X : Cx} {F : Fx} {a b c : Expr} {es : List Expr} {pos p2 p apos : Pos} {wa wb wc : WE} {wr : WA} {K : PySem.W.Frag}

/-! ### a < b < c -/
def wChain (f f' : PyData → PyData → Option PyData) (wa wb wc : WE) : WE := fun ρ Q => wa ρ fun x => wb ρ fun y => ∃ k, f x y = some (.bool k) ∧ if k = true then wc ρ fun z => ∃ r, f' y z = some r ∧ Q r else Q (.bool false)
theorem wChain_mono {f f' : PyData → PyData → Option PyData} (ha : Mono wa) (hb : Mono wb) (hc : Mono wc) : Mono (wChain f f' wa wb wc) := fun ρ Q Q' k q => ha ρ _ _ (fun x q => hb ρ _ _ (fun y ⟨b, e, q⟩ => ⟨b, e, by
  cases b with
  | true => exact hc ρ _ _ (fun z ⟨r, e, q⟩ => ⟨r, e, k _ q⟩) q
  | false => exact k _ q⟩) q) q
theorem chain_lift {r r' : R2} {f f' : PyData → PyData → Option PyData} (h : Op2 X.K r f) (h' : Op2 X.K r' f') (ha : SE X F a wa) (hb : SE X F b wb) (hc : SE X F c wc) {σ : St} {H : Hp} {Q : VK} (q : liftE X.K F (wChain f f' wa wb wc) σ H Q) :
    tChain r r' (liftE X.K F wa) (liftE X.K F wb) (liftE X.K F wc) σ H Q := by
  obtain ⟨ρ, G, ow, R, q⟩ := q
  refine ⟨ρ, G, ow, R, ha.mono ρ _ _ (fun x q v H1 G1 g1 d1 => ?_) q⟩
  have R1 := R.grow g1
  refine ⟨ρ, G1, ow, R1, hb.mono ρ _ _ (fun y q u H2 G2 g2 d2 => ?_) q⟩
  obtain ⟨k, e, q⟩ := q
  have R2 := R1.grow g2
  have g := g1.trans g2 R.dkok
  refine h F.dk v u x y _ H2 G2 _ R2.gr.sub R2.dkok (dp_mono g2.gg _ _ d1) d2 e fun v' H3 G3 g3 d3 => ?_
  cases d3
  refine ⟨k, rfl, ?_⟩
  have g' := g.trans g3 R.dkok
  have R3 := R2.grow g3
  cases k with
  | true =>
    refine ⟨ρ, G3, ow, R3, hc.mono ρ _ _ (fun z q w H4 G4 g4 d4 => ?_) q⟩
    obtain ⟨r, e, q⟩ := q
    have R4 := R3.grow g4
    exact h' F.dk u w y z _ H4 G4 _ R4.gr.sub R4.dkok (dp_mono g4.gg _ _ (dp_mono g3.gg _ _ d2)) d4 e fun v5 H5 G5 g5 d5 => q v5 H5 G5 ((g'.trans g4 R.dkok).trans g5 R.dkok) d5
  | false => exact q _ H3 G3 g' (.bl false)
theorem se_chain {op op' : CmpOp} {r r' : R2} {f f' : PyData → PyData → Option PyData} (ho : OpR X (compareOp op) r) (ho' : OpR X (compareOp op') r') (h : Op2 X.K r f) (h' : Op2 X.K r' f') (ha : SE X F a wa) (hb : SE X F b wb) (hc : SE X F c wc)
    (hm : lastMarks [op, op'] [b, c] = false := by with_unfolding_all rfl) : SE X F (.Compare a [op, op'] [b, c] pos) (wChain f f' wa wb wc) :=
  ⟨pe_imp (pe_chain ho ho' ha.pe hb.pe hc.pe hm) fun _ _ _ q => chain_lift h h' ha hb hc q, wChain_mono ha.mono hb.mono hc.mono⟩
theorem st_chain {op op' : CmpOp} {r r' : R2} {f f' : PyData → PyData → Option PyData} (ho : OpR X (compareOp op) r) (ho' : OpR X (compareOp op') r') (h : Op2 X.K r f) (h' : Op2 X.K r' f') (ha : SE X F a wa) (hb : SE X F b wb) (hc : SE X F c wc)
    (hm : lastMarks [op, op'] [b, c] = false := by with_unfolding_all rfl) : ST X F (.Compare a [op, op'] [b, c] pos) (wTst (wChain f f' wa wb wc)) := by
  have hmn := wChain_mono (f := f) (f' := f') ha.mono hb.mono hc.mono
  refine ⟨pt_imp (pt_chain ho ho' ha.pe hb.pe hc.pe hm) fun σ H Q q => ?_, wTst_mono hmn⟩
  obtain ⟨ρ, G, ow, R, q⟩ := q
  refine chain_lift h h' ha hb hc (Q := fun x H' => ∃ k, x = .bl k ∧ Q k H') ⟨ρ, G, ow, R, hmn ρ _ _ (fun d ⟨b, e, q⟩ v H' G' g dp => ?_) q⟩
  subst e
  cases dp
  exact ⟨b, rfl, q H' G' g⟩

/-! ### isinstance -/
def tyD : PyData → String
  | .none => "NoneType"
  | .bool _ => "bool"
  | .int _ => "int"
  | .str _ => "str"
  | .list _ => "list"
  | .tuple _ => "tuple"
  | .dict _ => "dict"
theorem tyX_of {G H : Hp} (s : Same G H) {v : V} {d : PyData} (h : Dq K G v d) : TyX K H v (.type (tyD d)) := by
  cases h with
  | non => exact .base .non
  | bl b => exact .base (.bl b)
  | int i => exact .base (.int i)
  | str x => exact .base (.str x)
  | lst h _ => exact .base (.lst (s _ _ h))
  | tup h _ =>
    rcases h with (h | ⟨o, h⟩) | ⟨o, its, n, h, hc, _⟩
    · exact .base (.tup (s _ _ h))
    · exact .fTuple (s _ _ h)
    · exact .kTuple h hc
/-- isinstance of a built-in class, as it comes out -/
def isTup : PyData → Bool
  | .tuple _ => true
  | _ => false
def isList : PyData → Bool
  | .list _ => true
  | _ => false
def isStr : PyData → Bool
  | .str _ => true
  | _ => false
def isInt : PyData → Bool
  | .int _ => true
  | .bool _ => true
  | _ => false
def isBool : PyData → Bool
  | .bool _ => true
  | _ => false
inductive TyF : String → (PyData → Bool) → Prop where
  | tup : TyF "tuple" isTup
  | lst : TyF "list" isList
  | str : TyF "str" isStr
  | int : TyF "int" isInt
  | bl : TyF "bool" isBool
theorem kit_isD {T : String} {f : PyData → Bool} (hT : TyF T f) (d : PyData) (hd : ∀ kvs, d ≠ .dict kvs) : PySem.W.kitOne K (.type (tyD d)) (.type T) = some (f d) := by
  cases hT <;> cases d <;> first | exact absurd rfl (hd _) | exact kit_ty (by kernel_rfl)
theorem dq_nodict {G : Hp} {v : V} {d : PyData} (h : Dq K G v d) : ∀ kvs, d ≠ .dict kvs := by
  cases h <;> intro _ e <;> cases e
def wIsi (f : PyData → Bool) (wa : WE) : WE := fun ρ Q => wa ρ fun x => Q (.bool (f x))
theorem wIsi_mono {f : PyData → Bool} (h : Mono wa) : Mono (wIsi f wa) := fun ρ Q Q' k q => h ρ _ _ (fun x q => k _ q) q
theorem se_isi {T : String} {n : Str} {f : PyData → Bool} (hT : TyF T f) (ha : SE X F a wa) (hg : Gl X "isinstance") (hm : X.mg "isinstance" = none) (hgt : Gl X n) (hmt : X.mg n = none) (hbt : bootBuiltins n = some (.type T))
    (hn : n ≠ "__name__" := by decide) (hd : (n == ("__debug__" : Str)) = false := by decide) (hs : starEach (a :: [.Name n p2]) X.env = (false, eval a X.env) :: starEach [.Name n p2] X.env := by rfl) :
    SE X F (.Call (.Name "isinstance" p) [a, .Name n p2] [] pos) (wIsi f wa) := by
  refine ⟨pe_imp (pe_callB (r := rIsi X.K) call_isi hg hm (by decide +kernel) (pa_cons ha.pe (pa_cons (pe_bltn (v := .ty T) hgt hmt hbt rfl hn hd) pa_nil) hs) (he := hs)) fun σ H Q q => ?_, wIsi_mono ha.mono⟩
  obtain ⟨ρ, G, ow, R, q⟩ := q
  refine ⟨ρ, G, ow, R, ha.mono ρ _ _ (fun x q v H1 G1 g1 d1 => ?_) q⟩
  have R1 := R.grow g1
  exact ⟨v, .ty T, _, _, _, rfl, .ty T, tyX_of R1.gr.sub d1, kit_isD hT x (dq_nodict d1), q _ H1 G1 g1 (.bl _)⟩
/-- isinstance(x, (T1, T2)) -/
theorem se_isi2 {T1 T2 : String} {n1 n2 : Str} {k} {q1 q2 q3 : Pos} {f1 f2 : PyData → Bool} (hT1 : TyF T1 f1) (hT2 : TyF T2 f2) (ha : SE X F a wa)
    (hg : Gl X "isinstance") (hm : X.mg "isinstance" = none) (hg1 : Gl X n1) (hm1 : X.mg n1 = none) (hb1 : bootBuiltins n1 = some (.type T1)) (hg2 : Gl X n2) (hm2 : X.mg n2 = none) (hb2 : bootBuiltins n2 = some (.type T2))
    (hn1 : n1 ≠ "__name__" := by decide) (hd1 : (n1 == ("__debug__" : Str)) = false := by decide) (hn2 : n2 ≠ "__name__" := by decide) (hd2 : (n2 == ("__debug__" : Str)) = false := by decide)
    (hs : starEach (a :: [.Tuple [.Name n1 q1, .Name n2 q2] k q3]) X.env = (false, eval a X.env) :: starEach [.Tuple [.Name n1 q1, .Name n2 q2] k q3] X.env := by rfl) :
    SE X F (.Call (.Name "isinstance" p) [a, .Tuple [.Name n1 q1, .Name n2 q2] k q3] [] pos) (wIsi (fun d => f1 d || f2 d) wa) := by
  refine ⟨pe_imp (pe_callB (r := rIsiT X.K) call_isiT hg hm (by decide +kernel) (pa_cons ha.pe (pa_cons (pe_tup (pa_cons (pe_bltn (v := .ty T1) hg1 hm1 hb1 rfl hn1 hd1) (pa_cons (pe_bltn (v := .ty T2) hg2 hm2 hb2 rfl hn2 hd2) pa_nil))) pa_nil) hs) (he := hs)) fun σ H Q q => ?_, wIsi_mono ha.mono⟩
  obtain ⟨ρ, G, ow, R, q⟩ := q
  refine ⟨ρ, G, ow, R, ha.mono ρ _ _ (fun x q v H1 G1 g1 d1 => ?_) q⟩
  have R1 := R.grow g1
  refine ⟨by show 2 ≤ sizeLine; decide, fun tp hp => ?_⟩
  have g2 := Grow.newH (o := .tup [.ty T1, .ty T2]) R1.gr.sub R1.dkok hp
  have hh : PySem.W.kitAny X.K (.type (tyD x)) [.type T1, .type T2] = some (f1 x || f2 x) := by
    refine kitAny_cons (kit_isD hT1 x (dq_nodict d1)) (fun e => ?_) fun e => by rw [e]; rfl
    refine kitAny_cons (kit_isD hT2 x (dq_nodict d1)) (fun e2 => ?_) fun e2 => by rw [e, e2]; rfl
    rw [e, e2]; exact kitAny_nil
  exact ⟨v, tp, _, _, _, _, rfl, upd_same, .cons (.ty T1) (.cons (.ty T2) .nil), tyX_of (fun b o e => (R1.grow g2).gr.sub b o e) (dp_mono g2.gg _ _ d1), hh, q _ _ _ (g1.trans g2 R.dkok) (.bl _)⟩

/-! ### built-in functions and classes by their name, over data -/
def ClD (K : PySem.W.Frag) (r : List V → Hp → VK → Prop) (f : List PyData → Option PyData) : Prop := ∀ (dk : DK) (vs : List V) (ds : List PyData) (z : PyData) (H G : Hp) (Q : VK), Same G H → DkOk dk H G → DqAll K G vs ds → f ds = some z →
  (∀ v H' G', Grow dk H G H' G' → Dq K G' v z → Q v H') → r vs H Q
def wCl (f : List PyData → Option PyData) (wr : WA) : WE := fun ρ Q => wr ρ fun xs => ∃ z, f xs = some z ∧ Q z
theorem wCl_mono {f : List PyData → Option PyData} (h : Mono wr) : Mono (wCl f wr) := fun ρ Q Q' k q => h ρ _ _ (fun xs ⟨z, e, q⟩ => ⟨z, e, k _ q⟩) q
theorem cl_lift {r : List V → Hp → VK → Prop} {f : List PyData → Option PyData} (h : ClD X.K r f) (ha : SA X F es wr) {σ : St} {H : Hp} {Q : VK} (q : liftE X.K F (wCl f wr) σ H Q) : tCB r (liftA X.K F wr) σ H Q := by
  obtain ⟨ρ, G, ow, R, q⟩ := q
  refine ⟨ρ, G, ow, R, ha.mono ρ _ _ (fun xs q vs H1 G1 g1 d1 => ?_) q⟩
  obtain ⟨z, e, q⟩ := q
  have R1 := R.grow g1
  exact h F.dk vs xs z H1 G1 Q R1.gr.sub R1.dkok d1 e fun v H2 G2 g2 d2 => q v H2 G2 (g1.trans g2 R.dkok) d2
theorem se_callB {x : Str} {id : String} {e : Expr} {r : List V → Hp → VK → Prop} {f : List PyData → Option PyData} (hc : CallR X (.builtin id) r) (h : ClD X.K r f) (hg : Gl X x) (hm : X.mg x = none) (hv : bootBuiltins x = some (.builtin id)) (ha : SA X F (e :: es) wr)
    (hn : x ≠ "__name__" := by decide) (hdb : (x == ("__debug__" : Str)) = false := by decide) (he : starEach (e :: es) X.env = (false, eval e X.env) :: starEach es X.env := by rfl) (hpl : (backTo pos (starEach es X.env)).any (·.1) = false := by rfl) :
    SE X F (.Call (.Name x p) (e :: es) [] pos) (wCl f wr) :=
  ⟨pe_imp (pe_callB hc hg hm hv ha.pa hn hdb he hpl) fun _ _ _ q => cl_lift h ha q, wCl_mono ha.mono⟩
theorem se_callTy {x : Str} {T : String} {e : Expr} {r : List V → Hp → VK → Prop} {f : List PyData → Option PyData} (hc : CallR X (.type T) r) (h : ClD X.K r f) (hg : Gl X x) (hm : X.mg x = none) (hv : bootBuiltins x = some (.type T)) (ha : SA X F (e :: es) wr)
    (hn : x ≠ "__name__" := by decide) (hdb : (x == ("__debug__" : Str)) = false := by decide) (he : starEach (e :: es) X.env = (false, eval e X.env) :: starEach es X.env := by rfl) (hpl : (backTo pos (starEach es X.env)).any (·.1) = false := by rfl) :
    SE X F (.Call (.Name x p) (e :: es) [] pos) (wCl f wr) :=
  ⟨pe_imp (pe_callTy hc hg hm hv ha.pa hn hdb he hpl) fun _ _ _ q => cl_lift h ha q, wCl_mono ha.mono⟩
theorem dqa1 {G : Hp} {vs : List V} {d : PyData} (h : DqAll K G vs [d]) : ∃ v, vs = [v] ∧ Dq K G v d := by
  cases h with
  | cons h a => cases a; exact ⟨_, rfl, h⟩
theorem dqa2 {G : Hp} {vs : List V} {d e : PyData} (h : DqAll K G vs [d, e]) : ∃ v u, vs = [v, u] ∧ Dq K G v d ∧ Dq K G u e := by
  cases h with
  | cons h a => obtain ⟨u, rfl, hu⟩ := dqa1 a; exact ⟨_, _, rfl, h, hu⟩
def lenD : List PyData → Option PyData
  | [.list xs] => some (.int xs.length)
  | [.tuple xs] => some (.int xs.length)
  | [.str z] => if z.length ≤ sizeLine then some (.int z.length) else none
  | _ => none
abbrev rLenD (K : PySem.W.Frag) : List V → Hp → VK → Prop := fun xs H Q => (∃ p ys, xs = [.ref p] ∧ (SqL K H p ys ∨ SqT K H p ys) ∧ Q (.int ys.length) H) ∨ (∃ z, xs = [.str z] ∧ z.length ≤ sizeLine ∧ Q (.int z.length) H)
theorem call_lenQ : CallR X (.builtin "len") (rLenD X.K) := call_len_seq.or call_len_str
theorem cl_len : ClD K (rLenD K) lenD := by
  intro dk vs ds z H G Q s d a e q
  match ds, e with
  | [.list xs], e =>
    cases e
    obtain ⟨v, rfl, hv⟩ := dqa1 a
    cases hv with
    | lst h1 a1 => exact .inl ⟨_, _, rfl, .inl (.inl (.inl (s _ _ h1))), q _ H G (grow_refl s d) (by rw [dpa_len a1]; exact .int _)⟩
  | [.tuple xs], e =>
    cases e
    obtain ⟨v, rfl, hv⟩ := dqa1 a
    cases hv with
    | tup h1 a1 => exact .inl ⟨_, _, rfl, .inr (st_mono s h1), q _ H G (grow_refl s d) (by rw [dpa_len a1]; exact .int _)⟩
  | [.str t], e =>
    obtain ⟨v, rfl, hv⟩ := dqa1 a
    cases hv
    simp only [lenD] at e
    split at e
    · cases e
      exact .inr ⟨_, rfl, by assumption, q _ H G (grow_refl s d) (.int _)⟩
    · cases e
/-- list(..), tuple(..) of a list or tuple -/
def listD : List PyData → Option PyData
  | [.list xs] => some (.list xs)
  | [.tuple xs] => some (.list xs)
  | _ => none
def tupleD : List PyData → Option PyData
  | [.list xs] => some (.tuple xs)
  | [.tuple xs] => some (.tuple xs)
  | _ => none
theorem cl_tuple : ClD K (fun xs H Q => ∃ p ys, xs = [.ref p] ∧ ((SqL K H p ys ∧ ∀ l, H l = none → Q (.ref l) (upd H l (.tup ys))) ∨ (SqT K H p ys ∧ Q (.ref p) H))) tupleD := by
  intro dk vs ds z H G Q s d a e q
  match ds, e with
  | [.list xs], e =>
    cases e
    obtain ⟨v, rfl, hv⟩ := dqa1 a
    cases hv with
    | lst h1 a1 => exact ⟨_, _, rfl, .inl ⟨.inl (.inl (s _ _ h1)), fun l hl => new_tup s d a1 hl q⟩⟩
  | [.tuple xs], e =>
    cases e
    obtain ⟨v, rfl, hv⟩ := dqa1 a
    cases hv with
    | tup h1 a1 => exact ⟨_, _, rfl, .inr ⟨st_mono s h1, q _ H G (grow_refl s d) (.tup h1 a1)⟩⟩
/-- a fresh list of a list or tuple -/
def wListOf (wa : WE) : WA := fun ρ Q => wa ρ fun x => ∃ xs, listD [x] = some (.list xs) ∧ Q xs
theorem sl_list {x : Str} (hg : Gl X x) (hm : X.mg x = none) (hv : bootBuiltins x = some (.type "list")) (ha : SE X F a wa)
    (hn : x ≠ "__name__" := by decide) (hdb : (x == ("__debug__" : Str)) = false := by decide) (he : starEach [a] X.env = (false, eval a X.env) :: starEach [] X.env := by rfl) : SEL X F (.Call (.Name x p) [a] [] pos) (wListOf wa) := by
  refine ⟨pe_imp (pe_callTy call_list_of hg hm hv (pa_cons ha.pe pa_nil he) hn hdb he (by rfl)) fun σ H Q q => ?_, fun ρ Q Q' k q => ha.mono ρ _ _ (fun x ⟨xs, e, q⟩ => ⟨xs, e, k _ q⟩) q⟩
  obtain ⟨ρ, G, ow, R, q⟩ := q
  refine ⟨ρ, G, ow, R, ha.mono ρ _ _ (fun x q v H1 G1 g1 d1 => ?_) q⟩
  obtain ⟨xs, e, q⟩ := q
  have R1 := R.grow g1
  have fin : ∀ (vs : List V), DqAll X.K G1 vs xs → ∀ l, H1 l = none → Q (.ref l) (upd H1 l (.lst vs)) := fun vs a l hl => by
    have g2 := Grow.newH (o := .lst vs) R1.gr.sub R1.dkok hl
    have g0 : G1 l = none := by
      cases e : G1 l with
      | none => rfl
      | some o => rw [g1.sub l o e] at hl; cases hl
    exact q l vs _ _ (g1.trans g2 R.dkok) (g1.th R.dkok hl) g0 upd_same a
  cases d1 with
  | lst h1 a1 => cases e; exact ⟨_, _, rfl, .inl (.inl (.inl (R1.gr.sub _ _ h1))), fin _ a1⟩
  | tup h1 a1 => cases e; exact ⟨_, _, rfl, .inr (st_mono R1.gr.sub h1), fin _ a1⟩
  | _ => cases e
def maxD : List PyData → Option PyData
  | [.int i, .int j] => some (.int (if j > i then j else i))
  | _ => none
theorem cl_max : ClD K (fun xs H Q => ∃ i j, xs = [.int i, .int j] ∧ Q (.int (if j > i then j else i)) H) maxD := by
  intro dk vs ds z H G Q s d a e q
  match ds, e with
  | [.int i, .int j], e =>
    cases e
    obtain ⟨v, u, rfl, h1, h2⟩ := dqa2 a
    cases h1; cases h2
    exact ⟨i, j, rfl, q _ H G (grow_refl s d) (.int _)⟩
def intD : List PyData → Option PyData
  | [.int i] => some (.int i)
  | [.bool b] => some (.int (if b then 1 else 0))
  | _ => none
theorem cl_int : ClD K (fun xs H Q => (∃ i, xs = [.int i] ∧ Q (.int i) H) ∨ ∃ k, xs = [.bl k] ∧ Q (.int (if k then 1 else 0)) H) intD := by
  intro dk vs ds z H G Q s d a e q
  match ds, e with
  | [.int i], e =>
    cases e
    obtain ⟨v, rfl, h1⟩ := dqa1 a
    cases h1
    exact .inl ⟨i, rfl, q _ H G (grow_refl s d) (.int _)⟩
  | [.bool i], e =>
    cases e
    obtain ⟨v, rfl, h1⟩ := dqa1 a
    cases h1
    exact .inr ⟨i, rfl, q _ H G (grow_refl s d) (.int _)⟩
def strD : List PyData → Option PyData
  | [.int i] => if i.natAbs.log2 < 1920 then some (.str (Str.ofString (toString i))) else none
  | _ => none
theorem cl_str : ClD K (fun xs H Q => ∃ i, xs = [.int i] ∧ i.natAbs.log2 < 1920 ∧ Q (.str (Str.ofString (toString i))) H) strD := by
  intro dk vs ds z H G Q s d a e q
  match ds, e with
  | [.int i], e =>
    obtain ⟨v, rfl, h1⟩ := dqa1 a
    cases h1
    simp only [strD] at e
    split at e
    · cases e
      exact ⟨i, rfl, by assumption, q _ H G (grow_refl s d) (.str _)⟩
    · cases e
def blsOf : List PyData → Option (List Bool)
  | [] => some []
  | .bool b :: r => (blsOf r).map (b :: ·)
  | _ :: _ => none
theorem blsOf_map (bs : List Bool) : blsOf (bs.map .bool) = some bs := by
  induction bs with
  | nil => rfl
  | cons x xs ih => simp [blsOf, ih]
theorem blsOf_eq : ∀ {ds : List PyData} {xs : List Bool}, blsOf ds = some xs → ds = xs.map .bool
  | [], _, h => by cases h; rfl
  | .bool x :: r, xs, h => by
    cases e : blsOf r with
    | none => simp [blsOf, e] at h
    | some ys =>
      simp [blsOf, e] at h
      subst h
      rw [List.map_cons, blsOf_eq e]
  | .none :: _, _, h => by simp [blsOf] at h
  | .str _ :: _, _, h => by simp [blsOf] at h
  | .int _ :: _, _, h => by simp [blsOf] at h
  | .list _ :: _, _, h => by simp [blsOf] at h
  | .tuple _ :: _, _, h => by simp [blsOf] at h
  | .dict _ :: _, _, h => by simp [blsOf] at h
theorem dqa_bls {G : Hp} : ∀ {vs : List V} {xs : List Bool}, DqAll K G vs (xs.map .bool) → vs = xs.map V.bl
  | _, [], h => by cases h; rfl
  | _, x :: xs, h => by
    cases h with
    | cons h a => cases h; rw [List.map_cons, dqa_bls a]
def foldBl (g : List Bool → Bool) : List PyData → Option PyData
  | [.list ds] => (blsOf ds).map fun bs => .bool (g bs)
  | _ => none
theorem cl_foldBl {g : List Bool → Bool} : ClD K (fun vs H Q => ∃ (a : Addr) (bs : List Bool), vs = [V.ref a] ∧ SqL K H a (bs.map V.bl) ∧ Q (.bl (g bs)) H) (foldBl g) := by
  intro dk vs ds z H G Q s d a e q
  match ds, e with
  | [.list xs], e =>
    obtain ⟨v, rfl, h1⟩ := dqa1 a
    simp only [foldBl] at e
    cases eb : blsOf xs with
    | none => rw [eb] at e; cases e
    | some bs =>
      rw [eb] at e
      cases e
      cases h1 with
      | lst h2 a2 =>
        have := blsOf_eq eb
        subst this
        have := dqa_bls a2
        subst this
        exact ⟨_, bs, rfl, .inl (.inl (s _ _ h2)), q _ H G (grow_refl s d) (.bl _)⟩
abbrev anyD := foldBl (·.any id)
abbrev allD := foldBl (·.all id)

/-! ### methods of texts -/
def MtD (K : PySem.W.Frag) (T : String) (r : V → List V → Hp → VK → Prop) (f : PyData → List PyData → Option PyData) : Prop := ∀ (dk : DK) (x : V) (d0 : PyData) (vs : List V) (ds : List PyData) (z : PyData) (H G : Hp) (Q : VK), Same G H → DkOk dk H G → Dq K G x d0 → DqAll K G vs ds → f d0 ds = some z →
  (∀ v H' G', Grow dk H G H' G' → Dq K G' v z → Q v H') → r x vs H Q
def wMt (T : String) (f : PyData → List PyData → Option PyData) (wo : WE) (wr : WA) : WE := fun ρ Q => wo ρ fun x => tyD x = T ∧ wr ρ fun xs => ∃ z, f x xs = some z ∧ Q z
theorem wMt_mono {T : String} {f : PyData → List PyData → Option PyData} {wo : WE} (ho : Mono wo) (h : Mono wr) : Mono (wMt T f wo wr) := fun ρ Q Q' k q => ho ρ _ _ (fun x ⟨t, q⟩ => ⟨t, h ρ _ _ (fun xs ⟨z, e, q⟩ => ⟨z, e, k _ q⟩) q⟩) q
theorem tyV_str {H : Hp} {v : V} {G : Hp} {d : PyData} (h : Dq K G v d) (t : tyD d = "str") : tyV K "str" v H := by
  cases h <;> first | rfl | (exfalso; revert t; show ¬ (_ = _); simp [tyD])
theorem se_mt {o e : Expr} {wo : WE} {id : String} {name : Str} {r : V → List V → Hp → VK → Prop} {f : PyData → List PyData → Option PyData} {cpos : Pos} (slot : Slot "str" name id) (hty : typeOf (.builtin id) = pure (.type "method_descriptor")) (hmt : MtR X id r) (h : MtD X.K "str" r f) (ho : SE X F o wo) (ha : SA X F (e :: es) wr)
    (hbase : attributeBase o name X.env (eval o X.env) = eval o X.env := by rfl)
    (hfew : ((backTo cpos (starEach (e :: es) X.env)).all (fun x => !x.1) && (backToKw cpos (keywordEach [] X.env)).all (fun x => x.1.isSome)
      && decide ((e :: es).length + ([] : List Keyword).length + (if ([] : List Keyword).isEmpty then 0 else 1) < 30)) = true := by rfl)
    (hline : (apos.endLine == cpos.line) = true := by rfl) (hs : starEach (e :: es) X.env = (false, eval e X.env) :: starEach es X.env := by rfl) (hplain : (backTo cpos (starEach es X.env)).any (·.1) = false := by rfl) :
    SE X F (.Call (.Attribute o name apos) (e :: es) [] cpos) (wMt "str" f wo wr) := by
  refine ⟨pe_imp (pe_bm PySem.F.plainAttrs_str slot hty hmt ho.pe ha.pa hbase hfew hline hs hplain) fun σ H Q q => ?_, wMt_mono ho.mono ha.mono⟩
  obtain ⟨ρ, G, ow, R, q⟩ := q
  refine ⟨ρ, G, ow, R, ho.mono ρ _ _ (fun x q v H1 G1 g1 d1 => ?_) q⟩
  obtain ⟨t, q⟩ := q
  have R1 := R.grow g1
  refine ⟨tyV_str d1 t, ρ, G1, ow, R1, ha.mono ρ _ _ (fun xs q vs H2 G2 g2 d2 => ?_) q⟩
  obtain ⟨z, e, q⟩ := q
  have R2 := R1.grow g2
  exact h F.dk v x vs xs z H2 G2 Q R2.gr.sub R2.dkok (dp_mono g2.gg _ _ d1) d2 e fun v' H3 G3 g3 d3 => q v' H3 G3 ((g1.trans g2 R.dkok).trans g3 R.dkok) d3
theorem se_mt0 {o : Expr} {wo : WE} {id : String} {name : Str} {r : V → List V → Hp → VK → Prop} {f : PyData → List PyData → Option PyData} {cpos : Pos} (slot : Slot "str" name id) (hty : typeOf (.builtin id) = pure (.type "method_descriptor")) (hmt : MtR X id r) (h : MtD X.K "str" r f) (ho : SE X F o wo)
    (hbase : attributeBase o name X.env (eval o X.env) = eval o X.env := by rfl) (hline : (apos.endLine == cpos.line) = true := by rfl) :
    SE X F (.Call (.Attribute o name apos) [] [] cpos) (wMt "str" f wo wNil) := by
  refine ⟨pe_imp (pe_bm0 PySem.F.plainAttrs_str slot hty hmt ho.pe hbase hline) fun σ H Q q => ?_, wMt_mono ho.mono fun ρ Q Q' k q => k _ q⟩
  obtain ⟨ρ, G, ow, R, q⟩ := q
  refine ⟨ρ, G, ow, R, ho.mono ρ _ _ (fun x q v H1 G1 g1 d1 => ?_) q⟩
  obtain ⟨t, z, e, q⟩ := q
  have R1 := R.grow g1
  exact ⟨tyV_str d1 t, h F.dk v x [] [] z H1 G1 Q R1.gr.sub R1.dkok d1 .nil e fun v' H3 G3 g3 d3 => q v' H3 G3 (g1.trans g3 R.dkok) d3⟩
def joinD : PyData → List PyData → Option PyData
  | .str a, [.list ds] => match strsOf ds with
    | some ys => if (ys.map (·.length)).sum + ys.length * a.length ≤ 16777216 then some (.str (Txt.join a ys)) else none
    | none => none
  | _, _ => none
theorem mt_joinD : MtD K "str" (fun x xs H Q => ∃ a p, ∃ ys : List Str, x = .str a ∧ xs = [.ref p] ∧ (SqL K H p (ys.map V.str) ∨ SqT K H p (ys.map V.str)) ∧ (ys.map (·.length)).sum + ys.length * a.length ≤ 16777216 ∧ Q (.str (Txt.join a ys)) H) joinD := by
  intro dk x d0 vs ds z H G Q s d hx a e q
  match d0, ds, e with
  | .str t, [.list xs], e =>
    cases hx
    obtain ⟨v, rfl, h1⟩ := dqa1 a
    simp only [joinD] at e
    cases es : strsOf xs with
    | none => rw [es] at e; cases e
    | some ys =>
      rw [es] at e
      simp only at e
      split at e
      · cases e
        cases h1 with
        | lst h2 a2 =>
          have := strsOf_eq es
          subst this
          have := dqa_strs a2
          subst this
          exact ⟨t, _, ys, rfl, rfl, .inl (.inl (.inl (s _ _ h2))), by assumption, q _ H G (grow_refl s d) (.str _)⟩
      · cases e
def upperD : PyData → List PyData → Option PyData
  | .str a, [] => if a.length ≤ 5592405 then some (.str (Txt.upper a)) else none
  | _, _ => none
theorem mt_upperD : MtD K "str" (fun x xs H Q => ∃ a, x = .str a ∧ xs = [] ∧ a.length ≤ 5592405 ∧ Q (.str (Txt.upper a)) H) upperD := by
  intro dk x d0 vs ds z H G Q s d hx a e q
  match d0, ds, e with
  | .str t, [], e =>
    cases hx
    cases a
    simp only [upperD] at e
    split at e
    · cases e
      exact ⟨t, rfl, rfl, by assumption, q _ H G (grow_refl s d) (.str _)⟩
    · cases e
end
end DL
set_option maxRecDepth 100000
set_option maxHeartbeats 2000000
/-! # The data layer: slots stored, statements -/
namespace DL
open PySem PySem.Spec L2

/-! ### slots stored -/
def own1 (ow : Nat → List Addr) (i : Nat) (o : List Addr) : Nat → List Addr := fun j => if j = i then o else ow j
theorem own1_same {ow : Nat → List Addr} {i : Nat} {o : List Addr} : own1 ow i o i = o := if_pos rfl
theorem own1_ne {ow : Nat → List Addr} {i j : Nat} {o : List Addr} (h : j ≠ i) : own1 ow i o j = ow j := if_neg h
/-- a slot's content for a value: what it owns stands aside, new -/
def SlV (K : PySem.W.Frag) (dk : DK) (v : V) (H G : Hp) (o : List Addr) : Sl → Prop
  | .un => o = []
  | .d x => o = [] ∧ Dq K G v x
  | .l xs => ∃ p vs, o = [p] ∧ v = .ref p ∧ H p = some (.lst vs) ∧ DqAll K G vs xs
  | .k kvs => ∃ p ws, o = [p] ∧ v = .ref p ∧ H p = some (.dK ws) ∧ KvAll K G ws kvs
  | .t kvs => ∃ p ws, o = [p] ∧ v = .ref p ∧ H p = some (.dT ws) ∧ KvAll K G ws kvs
  | .dk => o = [] ∧ ∃ k, dk = some k ∧ v = .ref k.a
section
variable {K : PySem.W.Frag} {F : Fx} {ρ : Env'} {σ : St} {H G H' G' : Hp} {ow : Nat → List Addr} {v : V} {o : List Addr} {s : Sl} {i : Nat} {dk : DK}
theorem SlV.grow (h : SlV K dk v H G o s) (nd : ∀ p ∈ o, ¬ InDk dk p) (g : Grow dk H G H' G') : SlV K dk v H' G' o s := by
  cases s with
  | un => exact (show o = [] from h)
  | d x => exact ⟨h.1, dp_mono g.gg _ _ h.2⟩
  | l xs => obtain ⟨p, vs, h0, h1, h2, h3⟩ := h; exact ⟨p, vs, h0, h1, g.hh _ _ (nd p (by rw [h0]; simp)) h2 (fun _ e => by cases e), dpa_mono g.gg _ _ h3⟩
  | k kvs => obtain ⟨p, vs, h0, h1, h2, h3⟩ := h; exact ⟨p, vs, h0, h1, g.hh _ _ (nd p (by rw [h0]; simp)) h2 (fun _ e => by cases e), kva_mono g.gg h3⟩
  | t kvs => obtain ⟨p, vs, h0, h1, h2, h3⟩ := h; exact ⟨p, vs, h0, h1, g.hh _ _ (nd p (by rw [h0]; simp)) h2 (fun _ e => by cases e), kva_mono g.gg h3⟩
  | dk => exact (show o = [] ∧ ∃ k, dk = some k ∧ v = .ref k.a from h)
theorem SlV.ok {σ : St} (h : SlV K dk v H G o s) (e : s = .un ∨ σ[i]? = some (some v)) : SlOk K dk σ H G o i s := by
  cases s with
  | un => exact (show o = [] from h)
  | d x => exact ⟨h.1, v, e.resolve_left (by intro z; cases z), h.2⟩
  | l xs => obtain ⟨p, vs, h0, h1, h2, h3⟩ := h; exact ⟨p, vs, h0, by rw [e.resolve_left (by intro z; cases z), h1], h2, h3⟩
  | k kvs => obtain ⟨p, vs, h0, h1, h2, h3⟩ := h; exact ⟨p, vs, h0, by rw [e.resolve_left (by intro z; cases z), h1], h2, h3⟩
  | t kvs => obtain ⟨p, vs, h0, h1, h2, h3⟩ := h; exact ⟨p, vs, h0, by rw [e.resolve_left (by intro z; cases z), h1], h2, h3⟩
  | dk => obtain ⟨h0, k, h1, h2⟩ := h; exact ⟨h0, k, h1, by rw [e.resolve_left (by intro z; cases z), h2]⟩
theorem SlOk.other {σ' : St} (h : SlOk K dk σ H G o i s) (e : σ'[i]? = σ[i]?) : SlOk K dk σ' H G o i s := by
  cases s with
  | un => exact (show o = [] from h)
  | d x => obtain ⟨h0, v, h1, h2⟩ := h; exact ⟨h0, v, by rw [e]; exact h1, h2⟩
  | l xs => obtain ⟨p, vs, h0, h1, h2⟩ := h; exact ⟨p, vs, h0, by rw [e]; exact h1, h2⟩
  | k kvs => obtain ⟨p, vs, h0, h1, h2⟩ := h; exact ⟨p, vs, h0, by rw [e]; exact h1, h2⟩
  | t kvs => obtain ⟨p, vs, h0, h1, h2⟩ := h; exact ⟨p, vs, h0, by rw [e]; exact h1, h2⟩
  | dk => obtain ⟨h0, k, h1, h2⟩ := h; exact ⟨h0, k, h1, by rw [e]; exact h2⟩
/-- what is new: not there ahead, not read as data, no other slot's -/
def Fresh (F : Fx) (H G : Hp) (ow : Nat → List Addr) (o : List Addr) : Prop := ∀ p ∈ o, G p = none ∧ F.H0 p = none ∧ H p ≠ none ∧ ∀ j, p ∉ ow j
theorem Rep.set (R : Rep K F ρ σ H G ow) (h : SlV K F.dk v H G o s) (f : Fresh F H G ow o) : Rep K F (ρ.set i s) (σ.set i (some v)) H G (own1 ow i o) where
  s0 := R.s0
  d0 := R.d0
  gr := R.gr
  len := by rw [List.length_set, List.length_set]; exact R.len
  sl := fun j t e => by
    by_cases hj : j = i
    · subst hj
      rw [own1_same]
      by_cases hl : j < ρ.length
      · rw [List.getElem?_set_self hl] at e
        cases e
        exact h.ok (.inr (List.getElem?_set_self (by rw [R.len]; exact hl)))
      · rw [List.getElem?_eq_none (by rw [List.length_set]; omega)] at e; cases e
    · rw [own1_ne hj]
      rw [List.getElem?_set_ne (Ne.symm hj)] at e
      exact (R.sl j t e).other (List.getElem?_set_ne (Ne.symm hj))
  fr := fun j p hp => by
    by_cases hj : j = i
    · subst hj; rw [own1_same] at hp; exact ⟨(f p hp).1, (f p hp).2.1, (f p hp).2.2.1⟩
    · rw [own1_ne hj] at hp; exact R.fr j p hp
  dj := fun j k p h1 h2 => by
    by_cases hj : j = i
    · by_cases hk : k = i
      · rw [hj, hk]
      · subst hj; rw [own1_same] at h1; rw [own1_ne hk] at h2; exact absurd h2 ((f p h1).2.2.2 k)
    · by_cases hk : k = i
      · subst hk; rw [own1_same] at h2; rw [own1_ne hj] at h1; exact absurd h1 ((f p h2).2.2.2 j)
      · rw [own1_ne hj] at h1; rw [own1_ne hk] at h2; exact R.dj j k p h1 h2
theorem Rep.set_d (R : Rep K F ρ σ H G ow) {d : PyData} (h : Dq K G v d) : Rep K F (ρ.set i (.d d)) (σ.set i (some v)) H G (own1 ow i []) := R.set (s := .d d) ⟨rfl, h⟩ fun p hp => absurd hp (by simp)
/-- a slot is forgotten -/
theorem Rep.forget (R : Rep K F ρ σ H G ow) {w : Option V} : Rep K F (ρ.set i .un) (σ.set i w) H G (own1 ow i []) where
  s0 := R.s0
  d0 := R.d0
  gr := R.gr
  len := by rw [List.length_set, List.length_set]; exact R.len
  sl := fun j t e => by
    by_cases hj : j = i
    · subst hj
      rw [own1_same]
      by_cases hl : j < ρ.length
      · rw [List.getElem?_set_self hl] at e
        cases e
        exact rfl
      · rw [List.getElem?_eq_none (by rw [List.length_set]; omega)] at e; cases e
    · rw [own1_ne hj]
      rw [List.getElem?_set_ne (Ne.symm hj)] at e
      exact (R.sl j t e).other (List.getElem?_set_ne (Ne.symm hj))
  fr := fun j p hp => by
    by_cases hj : j = i
    · subst hj; rw [own1_same] at hp; simp at hp
    · rw [own1_ne hj] at hp; exact R.fr j p hp
  dj := fun j k p h1 h2 => by
    by_cases hj : j = i
    · subst hj; rw [own1_same] at h1; simp at h1
    · by_cases hk : k = i
      · subst hk; rw [own1_same] at h2; simp at h2
      · rw [own1_ne hj] at h1; rw [own1_ne hk] at h2; exact R.dj j k p h1 h2
/-- a list of the def's own is changed -/
theorem Rep.putL (R : Rep K F ρ σ H G ow) {xs ys : List PyData} {p : Addr} {vs : List V} (e : ρ[i]? = some (.l xs)) (ho : ow i = [p]) (h : DqAll K G vs ys) : Rep K F (ρ.set i (.l ys)) σ (upd H p (.lst vs)) G ow := by
  have hp : p ∈ ow i := by rw [ho]; simp
  obtain ⟨f1, f2, f3⟩ := R.fr i p hp
  have hi : i < ρ.length := (List.getElem?_eq_some_iff.mp e).1
  have ne : ∀ j q, j ≠ i → q ∈ ow j → q ≠ p := fun j q hj hq z => hj (R.dj j i p (by rw [← z]; exact hq) hp)
  have hpl : ∃ u, H p = some u ∧ (∀ c q, u ≠ LamX.CodeO c q) ∧ ∀ ps, u ≠ .tbl ps := by
    obtain ⟨p', vs', z1, _, z2, _⟩ := R.sl i _ e
    rw [ho] at z1
    cases z1
    exact lst_plain z2
  refine ⟨R.s0, R.d0, R.gr.put R.d0 f2 f1 hpl, by rw [List.length_set]; exact R.len, fun j t et => ?_, fun j q hq => ?_, R.dj⟩
  · by_cases hj : j = i
    · subst hj
      rw [List.getElem?_set_self hi] at et
      cases et
      obtain ⟨p', vs', o1, o2, o3, o4⟩ := R.sl j _ e
      rw [ho] at o1
      cases o1
      exact ⟨p, vs, ho, o2, upd_same, h⟩
    · rw [List.getElem?_set_ne (Ne.symm hj)] at et
      have q := R.sl j t et
      cases t with
      | un => exact (show ow j = [] from q)
      | d x => exact q
      | l xs => obtain ⟨p', vs', h0, h1, h2, h3⟩ := q; exact ⟨p', vs', h0, h1, by rw [upd_ne (ne j p' hj (by rw [h0]; simp))]; exact h2, h3⟩
      | k xs => obtain ⟨p', vs', h0, h1, h2, h3⟩ := q; exact ⟨p', vs', h0, h1, by rw [upd_ne (ne j p' hj (by rw [h0]; simp))]; exact h2, h3⟩
      | t xs => obtain ⟨p', vs', h0, h1, h2, h3⟩ := q; exact ⟨p', vs', h0, h1, by rw [upd_ne (ne j p' hj (by rw [h0]; simp))]; exact h2, h3⟩
      | dk => exact (show ow j = [] ∧ ∃ k, F.dk = some k ∧ σ[j]? = some (some (.ref k.a)) from q)
  · obtain ⟨g1, g2, g3⟩ := R.fr j q hq
    refine ⟨g1, g2, fun z => ?_⟩
    by_cases hqp : q = p
    · rw [hqp, upd_same] at z; cases z
    · rw [upd_ne hqp] at z; exact g3 z
/-- a list of the def's own is read as data from now on -/
def frz (i : Nat) (ρ : Env') : Env' := match ρ[i]? with
  | some (.l xs) => ρ.set i (.d (.list xs))
  | _ => ρ
theorem Rep.frz (R : Rep K F ρ σ H G ow) (i : Nat) : ∃ G' ow', Rep K F (frz i ρ) σ H G' ow' ∧ Same G G' ∧ (∀ b o, G' b = some o → G b = some o ∨ (∃ vs, o = .lst vs) ∧ b ∈ ow i) ∧ ∀ j p, p ∈ ow' j → p ∈ ow j := by
  unfold DL.frz
  split
  · rename_i xs e
    obtain ⟨p, vs, o1, o2, o3, o4⟩ := R.sl i _ e
    have hp : p ∈ ow i := by rw [o1]; simp
    obtain ⟨f1, f2, f3⟩ := R.fr i p hp
    have hi : i < ρ.length := (List.getElem?_eq_some_iff.mp e).1
    have hs : Same G (upd G p (.lst vs)) := fun b o q => by rw [upd_ne (ne_of_none q f1)]; exact q
    refine ⟨upd G p (.lst vs), own1 ow i [], ⟨R.s0, R.d0, R.gr.show R.d0 f2 o3, by rw [List.length_set]; exact R.len, fun j t et => ?_, fun j q hq => ?_, fun j k q h1 h2 => ?_⟩, hs, fun b o q => ?_, fun j q hq => ?_⟩
    · by_cases hj : j = i
      · subst hj
        rw [List.getElem?_set_self hi] at et
        cases et
        exact ⟨own1_same, .ref p, o2, .lst upd_same (dpa_mono hs _ _ o4)⟩
      · rw [own1_ne hj]
        rw [List.getElem?_set_ne (Ne.symm hj)] at et
        have q := R.sl j t et
        cases t with
        | un => exact (show ow j = [] from q)
        | d x => obtain ⟨h0, v, h1, h2⟩ := q; exact ⟨h0, v, h1, dp_mono hs _ _ h2⟩
        | l xs => obtain ⟨p', vs', h0, h1, h2, h3⟩ := q; exact ⟨p', vs', h0, h1, h2, dpa_mono hs _ _ h3⟩
        | k xs => obtain ⟨p', vs', h0, h1, h2, h3⟩ := q; exact ⟨p', vs', h0, h1, h2, kva_mono hs h3⟩
        | t xs => obtain ⟨p', vs', h0, h1, h2, h3⟩ := q; exact ⟨p', vs', h0, h1, h2, kva_mono hs h3⟩
        | dk => exact (show ow j = [] ∧ ∃ k, F.dk = some k ∧ σ[j]? = some (some (.ref k.a)) from q)
    · by_cases hj : j = i
      · subst hj; rw [own1_same] at hq; simp at hq
      · rw [own1_ne hj] at hq
        obtain ⟨g1, g2, g3⟩ := R.fr j q hq
        have : q ≠ p := fun z => hj (R.dj j i p (by rw [← z]; exact hq) hp)
        exact ⟨by rw [upd_ne this]; exact g1, g2, g3⟩
    · by_cases hj : j = i
      · subst hj; rw [own1_same] at h1; simp at h1
      · by_cases hk : k = i
        · subst hk; rw [own1_same] at h2; simp at h2
        · rw [own1_ne hj] at h1; rw [own1_ne hk] at h2; exact R.dj j k q h1 h2
    · by_cases hb : b = p
      · subst hb; rw [upd_same] at q; cases q; exact .inr ⟨⟨_, rfl⟩, hp⟩
      · rw [upd_ne hb] at q; exact .inl q
    · by_cases hj : j = i
      · subst hj; rw [own1_same] at hq; simp at hq
      · rw [own1_ne hj] at hq; exact hq
  · exact ⟨G, ow, R, fun _ _ q => q, fun _ _ q => .inl q, fun _ _ q => q⟩
end

/-! ### data without lists -/
mutual
def noL : PyData → Bool
  | .list _ => false
  | .dict _ => false
  | .tuple xs => noLs xs
  | _ => true
def noLs : List PyData → Bool
  | [] => true
  | x :: xs => noL x && noLs xs
end
mutual
theorem dq_less {K : PySem.W.Frag} {G G' : Hp} (h : ∀ b o, G b = some o → (∀ vs, o ≠ .lst vs) → G' b = some o) : ∀ (d : PyData) (v : V), noL d = true → Dq K G v d → Dq K G' v d
  | .none, _, _, .non => .non
  | .bool _, _, _, .bl b => .bl b
  | .int _, _, _, .int i => .int i
  | .str _, _, _, .str x => .str x
  | .list ds, _, n, .lst _ _ => by simp [noL] at n
  | .tuple ds, _, n, .tup q a => by
    refine .tup ?_ (dqa_less h ds _ (by simpa [noL] using n) a)
    rcases q with (q | ⟨o, q⟩) | q
    · exact .inl (.inl (h _ _ q fun vs z => by cases z))
    · exact .inl (.inr ⟨o, h _ _ q fun vs z => by cases z⟩)
    · exact .inr q
theorem dqa_less {K : PySem.W.Frag} {G G' : Hp} (h : ∀ b o, G b = some o → (∀ vs, o ≠ .lst vs) → G' b = some o) : ∀ (ds : List PyData) (vs : List V), noLs ds = true → DqAll K G vs ds → DqAll K G' vs ds
  | [], _, _, .nil => .nil
  | d :: ds, _, n, .cons q a => by
    have n' : noL d = true ∧ noLs ds = true := by simpa [noLs] using n
    exact .cons (dq_less h d _ n'.1 q) (dqa_less h ds _ n'.2 a)
end

section
variable {X : Cx} {F : Fx} {a b c e : Expr} {es : List Expr} {pos : Pos} {wa wb : WE} {wt : WT}
/-- the lists of the def's own at these places are lent to an expression whose answer holds no list -/
def wBor (i : Nat) (w : WE) : WE := fun ρ Q => w (frz i ρ) fun d => noL d = true ∧ Q d
theorem bor_back {K : PySem.W.Frag} {ρ : Env'} {σ : St} {H G H' G1 G2 : Hp} {ow ow' : Nat → List Addr} {i : Nat} (R : Rep K F ρ σ H G ow) (R1 : Rep K F (frz i ρ) σ H G1 ow') (s : Same G G1) (n : ∀ b o, G1 b = some o → G b = some o ∨ (∃ vs, o = .lst vs) ∧ b ∈ ow i) (g : Grow F.dk H G1 H' G2) :
    ∃ G', Grow F.dk H G H' G' ∧ ∀ d v, noL d = true → Dq K G2 v d → Dq K G' v d := by
  classical
  refine ⟨fun b => if b ∈ ow i then none else G2 b, ⟨fun b o q => ?_, fun b o q => ?_, g.hh, g.tb, fun b o q => ?_, fun k e => ?_⟩, fun d v nl q => dq_less (fun b o q nl => ?_) d v nl q⟩
  · by_cases hb : b ∈ ow i
    · simp [hb] at q
    · simp only [hb, if_false] at q; exact g.sub b o q
  · have hb : b ∉ ow i := fun z => by rw [(R.fr i b z).1] at q; cases q
    simp only [hb, if_false]
    exact g.gg b o (s b o q)
  · by_cases hb : b ∈ ow i
    · simp [hb] at q
    · simp only [hb, if_false] at q
      rcases g.nw b o q with z | z
      · rcases n b o z with z | z
        · exact .inl z
        · exact absurd z.2 hb
      · exact .inr z
  · obtain ⟨ne, dd, g1, g2, g3, g4, g5⟩ := g.dk k e
    refine ⟨ne, dd, ?_, ?_, g3, fun b ps q => ?_, g5⟩
    · split <;> first | rfl | assumption
    · split <;> first | rfl | assumption
    · split at q
      · cases q
      · exact g4 b ps q
  · by_cases hb : b ∈ ow i
    · exfalso
      have h1 := (R.fr i b hb).2.2
      rcases g.nw b o q with z | z
      · rcases n b o z with z | z
        · rw [(R.fr i b hb).1] at z; cases z
        · obtain ⟨⟨vs, rfl⟩, _⟩ := z; exact nl vs rfl
      · exact h1 z
    · simp only [hb, if_false]; exact q
theorem se_bor {w : WE} (i : Nat) (h : SE X F e w) : SE X F e (wBor i w) := by
  refine ⟨pe_imp h.pe fun σ H Q q => ?_, fun ρ Q Q' k q => h.mono _ _ _ (fun d ⟨n, q⟩ => ⟨n, k _ q⟩) q⟩
  obtain ⟨ρ, G, ow, R, q⟩ := q
  obtain ⟨G1, ow', R1, s, n, _⟩ := R.frz i
  refine ⟨_, G1, ow', R1, h.mono _ _ _ (fun d q v H' G2 g dq => ?_) q⟩
  obtain ⟨G', g', k⟩ := bor_back R R1 s n g
  exact q.2 v H' G' g' (k d v q.1 dq)
def wBorT (i : Nat) (w : WT) : WT := fun ρ Q => w (frz i ρ) Q
theorem st_bor {w : WT} (i : Nat) (h : ST X F e w) : ST X F e (wBorT i w) := by
  refine ⟨pt_imp h.pt fun σ H Q q => ?_, fun ρ Q Q' k q => h.mono _ _ _ k q⟩
  obtain ⟨ρ, G, ow, R, q⟩ := q
  obtain ⟨G1, ow', R1, s, n, _⟩ := R.frz i
  refine ⟨_, G1, ow', R1, h.mono _ _ _ (fun d q H' G2 g => ?_) q⟩
  obtain ⟨G', g', k⟩ := bor_back R R1 s n g
  exact q H' G' g'
end

/-! ### statements -/
structure En where
  nx : Env' → Prop
  rt : PyData → Prop
  bk : Env' → Prop := fun _ => False
  ct : Env' → Prop := fun _ => False
structure En.le (E E' : En) : Prop where
  nx : ∀ ρ, E.nx ρ → E'.nx ρ
  rt : ∀ d, E.rt d → E'.rt d
  bk : ∀ ρ, E.bk ρ → E'.bk ρ
  ct : ∀ ρ, E.ct ρ → E'.ct ρ
abbrev WS := Env' → En → Prop
def MonoS (w : WS) : Prop := ∀ ρ E E', En.le E E' → w ρ E → w ρ E'
def liftN (K : PySem.W.Frag) (F : Fx) (G : Hp) (N : St → Hp → Prop) : Env' → Prop := fun ρ => ∀ σ H G' ow, Rep K F ρ σ H G' ow → Same G G' → N σ H
def liftEn (K : PySem.W.Frag) (F : Fx) (G : Hp) (D : Ends) : En where
  nx := liftN K F G D.nx
  rt := fun d => ∀ v H' G', Grow F.dk F.H0 F.G0 H' G' → Dq K G' v d → D.rt v H'
  bk := liftN K F G D.bk
  ct := liftN K F G D.ct
def liftS (K : PySem.W.Frag) (F : Fx) (w : WS) : TS := fun D σ H => ∃ ρ G ow, Rep K F ρ σ H G ow ∧ w ρ (liftEn K F G D)
theorem liftN_mono {K : PySem.W.Frag} {F : Fx} {G G' : Hp} {N : St → Hp → Prop} (s : Same G G') (ρ : Env') (h : liftN K F G N ρ) : liftN K F G' N ρ := fun σ H G2 ow R s2 => h σ H G2 ow R fun b o q => s2 b o (s b o q)
theorem liftEn_mono {K : PySem.W.Frag} {F : Fx} {G G' : Hp} {D : Ends} (s : Same G G') : En.le (liftEn K F G D) (liftEn K F G' D) := ⟨liftN_mono s, fun _ h => h, liftN_mono s, liftN_mono s⟩
structure SS (X : Cx) (F : Fx) (st : Stmt) (w : WS) : Prop where
  ps : PS X st (liftS X.K F w)
  mono : MonoS w
structure SSs (X : Cx) (F : Fx) (sts : List Stmt) (w : WS) : Prop where
  ps : PSs X sts (liftS X.K F w)
  mono : MonoS w
theorem ps_imp {X : Cx} {st : Stmt} {t t' : TS} (h : PS X st t) (k : ∀ D σ H, t' D σ H → t D σ H) : PS X st t' := ⟨fun pins s σ H D I q => h.run pins s σ H D I (k D σ H q)⟩
theorem pss_imp {X : Cx} {st : List Stmt} {t t' : TS} (h : PSs X st t) (k : ∀ D σ H, t' D σ H → t D σ H) : PSs X st t' := ⟨fun pins s σ H D I q => h.run pins s σ H D I (k D σ H q)⟩
section
variable {X : Cx} {F : Fx} {a b c e : Expr} {es : List Expr} {pos : Pos} {wa wb : WE} {wt : WT} {wr : WA} {st : Stmt} {sts : List Stmt} {w1 w2 : WS}
def wNext : WS := fun ρ E => E.nx ρ
def wSeq (w1 w2 : WS) : WS := fun ρ E => w1 ρ { E with nx := fun ρ' => w2 ρ' E }
theorem sss_nil : SSs X F [] wNext := ⟨pss_imp pss_nil fun D σ H ⟨ρ, G, ow, R, q⟩ => q σ H G ow R fun _ _ h => h, fun ρ E E' l h => l.nx ρ h⟩
theorem seq_mono (m1 : MonoS w1) (m2 : MonoS w2) : MonoS (wSeq w1 w2) := fun ρ E E' l h => m1 ρ { E with nx := fun ρ' => w2 ρ' E } { E' with nx := fun ρ' => w2 ρ' E' } ⟨fun ρ' h => m2 ρ' E E' l h, l.rt, l.bk, l.ct⟩ h
theorem sss_cons (h1 : SS X F st w1) (h2 : SSs X F sts w2) : SSs X F (st :: sts) (wSeq w1 w2) := by
  refine ⟨pss_imp (pss_cons h1.ps h2.ps) fun D σ H q => ?_, seq_mono h1.mono h2.mono⟩
  obtain ⟨ρ, G, ow, R, q⟩ := q
  refine ⟨ρ, G, ow, R, h1.mono ρ { liftEn X.K F G D with nx := fun ρ' => w2 ρ' (liftEn X.K F G D) } _ ⟨fun ρ' q σ' H' G' ow' R' s => ?_, fun _ h => h, fun _ h => h, fun _ h => h⟩ q⟩
  exact ⟨ρ', G', ow', R', h2.mono ρ' _ _ (liftEn_mono s) q⟩
theorem sss_one (h1 : SS X F st w1) : SSs X F [st] w1 := ⟨pss_one h1.ps, h1.mono⟩
/-- ahead of a statement a list of the def's own is read as data from now on -/
def wFrz (i : Nat) (w : WS) : WS := fun ρ E => w (frz i ρ) E
theorem ss_frz (i : Nat) (h : SS X F st w1) : SS X F st (wFrz i w1) := by
  refine ⟨ps_imp h.ps fun D σ H q => ?_, fun ρ E E' l q => h.mono _ _ _ l q⟩
  obtain ⟨ρ, G, ow, R, q⟩ := q
  obtain ⟨G1, ow', R1, s, _⟩ := R.frz i
  exact ⟨_, G1, ow', R1, h.mono _ _ _ (liftEn_mono s) q⟩
/-- an expression whose value is dropped -/
def wDrop (wa : WE) : WS := fun ρ E => wa ρ fun _ => E.nx ρ
theorem ss_expr (he : SE X F e wa) (hs : swapsWith e none pos.line X.env = pure false := by rfl) : SS X F (.Expr e pos) (wDrop wa) := by
  refine ⟨ps_imp (ps_expr he.pe hs) fun D σ H q => ?_, fun ρ E E' l q => he.mono ρ _ _ (fun _ q => l.nx ρ q) q⟩
  obtain ⟨ρ, G, ow, R, q⟩ := q
  exact ⟨ρ, G, ow, R, he.mono ρ _ _ (fun d q v H1 G1 g1 d1 => q σ H1 G1 ow (R.grow g1) g1.gg) q⟩
def wRet (wa : WE) : WS := fun ρ E => wa ρ E.rt
theorem ss_ret (he : SE X F e wa) : SS X F (.Return (some e) pos) (wRet wa) := by
  refine ⟨ps_imp (ps_ret he.pe) fun D σ H q => ?_, fun ρ E E' l q => he.mono ρ _ _ l.rt q⟩
  obtain ⟨ρ, G, ow, R, q⟩ := q
  exact ⟨ρ, G, ow, R, he.mono ρ _ _ (fun d q v H1 G1 g1 d1 => q v H1 G1 (R.gr.trans g1 R.d0) d1) q⟩
def wIfS (t : WT) (w1 w2 : WS) : WS := fun ρ E => t ρ fun b => if b = true then w1 ρ E else w2 ρ E
variable {th el : List Stmt}
theorem ss_if (hc : ST X F c wt) (h1 : SSs X F th w1) (h2 : SSs X F el w2) : SS X F (.If c th el pos) (wIfS wt w1 w2) := by
  refine ⟨ps_imp (ps_if hc.pt h1.ps h2.ps) fun D σ H q => ?_, fun ρ E E' l q => hc.mono ρ _ _ (fun b q => by
    cases b with
    | true => exact h1.mono ρ _ _ l q
    | false => exact h2.mono ρ _ _ l q) q⟩
  obtain ⟨ρ, G, ow, R, q⟩ := q
  refine ⟨ρ, G, ow, R, hc.mono ρ _ _ (fun b q H1 G1 g1 => ?_) q⟩
  cases b with
  | true => exact ⟨ρ, G1, ow, R.grow g1, h1.mono ρ _ _ (liftEn_mono g1.gg) q⟩
  | false => exact ⟨ρ, G1, ow, R.grow g1, h2.mono ρ _ _ (liftEn_mono g1.gg) q⟩
def wBrk : WS := fun ρ E => E.bk ρ
def wCnt : WS := fun ρ E => E.ct ρ
theorem ss_pass : SS X F (.Pass pos) wNext := ⟨ps_imp ps_pass fun D σ H ⟨ρ, G, ow, R, q⟩ => q σ H G ow R fun _ _ h => h, fun ρ E E' l h => l.nx ρ h⟩
theorem ss_brk : SS X F (.Break pos) wBrk := ⟨ps_imp ps_break fun D σ H ⟨ρ, G, ow, R, q⟩ => q σ H G ow R fun _ _ h => h, fun ρ E E' l h => l.bk ρ h⟩
theorem ss_cnt : SS X F (.Continue pos) wCnt := ⟨ps_imp ps_continue fun D σ H ⟨ρ, G, ow, R, q⟩ => q σ H G ow R fun _ _ h => h, fun ρ E E' l h => l.ct ρ h⟩

/-! ### what is stored: data, or a new list of the def's own -/
abbrev WV := Env' → (Sl → Prop) → Prop
def liftV (K : PySem.W.Frag) (F : Fx) (w : WV) : TE := fun σ H Q => ∃ ρ G ow, Rep K F ρ σ H G ow ∧ w ρ fun s => ∀ v H' G' o, Grow F.dk H G H' G' → SlV K F.dk v H' G' o s → (∀ p ∈ o, H p = none ∧ G' p = none ∧ H' p ≠ none) → Q v H'
structure SV (X : Cx) (F : Fx) (e : Expr) (w : WV) : Prop where
  pe : PE X e (liftV X.K F w)
  mono : Mono w
def vD (wa : WE) : WV := fun ρ Q => wa ρ fun d => Q (.d d)
def vL (wr : WA) : WV := fun ρ Q => wr ρ fun xs => Q (.l xs)
theorem SE.v (h : SE X F e wa) : SV X F e (vD wa) := by
  refine ⟨pe_imp h.pe fun σ H Q q => ?_, fun ρ Q Q' k q => h.mono ρ _ _ (fun d q => k _ q) q⟩
  obtain ⟨ρ, G, ow, R, q⟩ := q
  exact ⟨ρ, G, ow, R, h.mono ρ _ _ (fun d q v H1 G1 g1 d1 => q v H1 G1 [] g1 ⟨rfl, d1⟩ fun p hp => absurd hp (by simp)) q⟩
theorem SEL.v (h : SEL X F e wr) : SV X F e (vL wr) := by
  refine ⟨pe_imp h.pe fun σ H Q q => ?_, fun ρ Q Q' k q => h.mono ρ _ _ (fun d q => k _ q) q⟩
  obtain ⟨ρ, G, ow, R, q⟩ := q
  refine ⟨ρ, G, ow, R, h.mono ρ _ _ (fun xs q p vs H1 G1 g1 h0 g0 h1 d1 => q (.ref p) H1 G1 [p] g1 ⟨p, vs, rfl, rfl, h1, d1⟩ fun p' hp' => ?_) q⟩
  obtain rfl : p' = p := by simpa using hp'
  exact ⟨h0, g0, by rw [h1]; simp⟩
theorem fresh_of {K : PySem.W.Frag} {ρ : Env'} {σ : St} {H G H' G' : Hp} {ow : Nat → List Addr} {o : List Addr} (R : Rep K F ρ σ H G ow) (g : Grow F.dk H G H' G') (h : ∀ p ∈ o, H p = none ∧ G' p = none ∧ H' p ≠ none) : Fresh F H' G' ow o := fun p hp => by
  obtain ⟨h1, h2, h3⟩ := h p hp
  refine ⟨h2, ?_, h3, fun j hj => (R.fr j p hj).2.2 h1⟩
  exact R.gr.th R.d0 h1
def wAsg (i : Nat) (wv : WV) : WS := fun ρ E => wv ρ fun s => E.nx (ρ.set i s)
variable {wv wv' wv2 : WV}
theorem asg_lift {i : Nat} (h : Mono wv) {D : Ends} {σ : St} {H : Hp} (q : liftS X.K F (wAsg i wv) D σ H) : tAsg (liftV X.K F wv) (gName i) D σ H := by
  obtain ⟨ρ, G, ow, R, q⟩ := q
  refine ⟨ρ, G, ow, R, h ρ _ _ (fun s q v H1 G1 o g1 d1 f => ?_) q⟩
  exact q _ H1 G1 _ ((R.grow g1).set d1 (fresh_of R g1 f)) g1.gg
theorem asg_mono {i : Nat} (h : Mono wv) : MonoS (wAsg i wv) := fun ρ E E' l q => h ρ _ _ (fun s q => l.nx _ q) q
theorem ss_set {i : Nat} {x : Str} {pos' : Pos} (hN : X.N.Nodup) (hi : X.N[i]? = some x) (hx : Loc X.env.scope x) (he : SV X F e wv) (hs : swapsWith e (some (.Name x pos')) pos.line X.env = pure false := by rfl)
    (hf : X.fn x = true ∨ X.env.scope.names.lookup x = some .local := by first | exact .inl rfl | exact .inr rfl | assumption) : SS X F (.Assign [.Name x pos'] e pos) (wAsg i wv) :=
  ⟨ps_imp (ps_set hN hi hx he.pe hs hf) fun _ _ _ q => asg_lift he.mono q, asg_mono he.mono⟩
/-- several, one after another -/
def liftVs (K : PySem.W.Frag) (F : Fx) (w : Env' → (List Sl → Prop) → Prop) : TA := fun σ H Q => ∃ ρ G ow, Rep K F ρ σ H G ow ∧ w ρ fun ss => ∀ vs H' G' (os : List (List Addr)), Grow F.dk H G H' G' → (∀ (i : Nat) (s : Sl), ss[i]? = some s → ∃ (v : V) (o : List Addr), vs[i]? = some v ∧ os[i]? = some o ∧ SlV K F.dk v H' G' o s) →
  vs.length = ss.length → (∀ (i : Nat) (o : List Addr) (p : Addr), os[i]? = some o → p ∈ o → H p = none ∧ G' p = none ∧ H' p ≠ none) → (∀ (i j : Nat) (o o' : List Addr) (p : Addr), os[i]? = some o → os[j]? = some o' → p ∈ o → p ∈ o' → i = j) → Q vs H'
structure SVs (X : Cx) (F : Fx) (es : List Expr) (w : Env' → (List Sl → Prop) → Prop) : Prop where
  pa : PA X es (liftVs X.K F w)
  mono : Mono w
def vNil : Env' → (List Sl → Prop) → Prop := fun _ Q => Q []
def vCons (wv : WV) (wr : Env' → (List Sl → Prop) → Prop) : Env' → (List Sl → Prop) → Prop := fun ρ Q => wv ρ fun s => wr ρ fun ss => Q (s :: ss)
theorem svs_nil : SVs X F [] vNil := by
  refine ⟨pa_imp pa_nil fun σ H Q q => ?_, fun ρ Q Q' k q => k _ q⟩
  obtain ⟨ρ, G, ow, R, q⟩ := q
  exact q [] H G [] R.refl (fun i s e => by simp at e) rfl (fun i o p e => by simp at e) fun i j o o' p e => by simp at e
theorem svs_cons {wr : Env' → (List Sl → Prop) → Prop} (ha : SV X F e wv) (hr : SVs X F es wr) (hs : starEach (e :: es) X.env = (false, eval e X.env) :: starEach es X.env := by rfl) : SVs X F (e :: es) (vCons wv wr) := by
  refine ⟨pa_imp (pa_cons ha.pe hr.pa hs) fun σ H Q q => ?_, fun ρ Q Q' k q => ha.mono ρ _ _ (fun x q => hr.mono ρ _ _ (fun xs q => k _ q) q) q⟩
  obtain ⟨ρ, G, ow, R, q⟩ := q
  refine ⟨ρ, G, ow, R, ha.mono ρ _ _ (fun s q v H1 G1 o g1 d1 f1 => ?_) q⟩
  have R1 := R.grow g1
  refine ⟨ρ, G1, ow, R1, hr.mono ρ _ _ (fun ss q vs H2 G2 os g2 d2 len f2 j2 => ?_) q⟩
  have nd : ∀ p ∈ o, ¬ InDk F.dk p := fun p hp z => (R.dkok.there z).1 (f1 p hp).1
  have g2' : ∀ p ∈ o, G2 p = none ∧ H2 p ≠ none := fun p hp => by
    obtain ⟨e1, e2, e3⟩ := f1 p hp
    refine ⟨?_, fun z => e3 (g2.th R1.dkok z)⟩
    cases e : G2 p with
    | none => rfl
    | some u =>
      rcases g2.nw p u e with z | z
      · rw [e2] at z; cases z
      · exact absurd z e3
  refine q (v :: vs) H2 G2 (o :: os) (g1.trans g2 R.dkok) (fun i s e => ?_) (by simp [len]) (fun i o' p e hp => ?_) fun i j o' o2 p e1 e2 h1 h2 => ?_
  · cases i with
    | zero => cases e; exact ⟨v, o, rfl, rfl, d1.grow nd g2⟩
    | succ i => exact d2 i s (by simpa using e)
  · cases i with
    | zero => cases e; exact ⟨(f1 p hp).1, g2' p hp⟩
    | succ i =>
      obtain ⟨z1, z2, z3⟩ := f2 i o' p (by simpa using e) hp
      exact ⟨g1.th R.dkok z1, z2, z3⟩
  · have key : ∀ i o' , os[i]? = some o' → ∀ p, p ∈ o → p ∈ o' → False := fun i o' e p h1 h2 => (f1 p h1).2.2 (f2 i o' p e h2).1
    cases i with
    | zero =>
      cases e1
      cases j with
      | zero => rfl
      | succ j => exact (key j o2 (by simpa using e2) p h1 h2).elim
    | succ i =>
      cases j with
      | zero => cases e2; exact (key i o' (by simpa using e1) p h2 h1).elim
      | succ j => rw [j2 i j o' o2 p (by simpa using e1) (by simpa using e2) h1 h2]
/-- a, b = x, y with plain local names -/
def wPar (i j : Nat) (wr : Env' → (List Sl → Prop) → Prop) : WS := fun ρ E => wr ρ fun ss => ∃ s t, ss = [s, t] ∧ E.nx ((ρ.set i s).set j t)
theorem ss_par {wr : Env' → (List Sl → Prop) → Prop} {i j : Nat} {x y : Str} {px py pt : Pos} {kt k2 pt2} (hc : X.calm = true) (hN : X.N.Nodup) (hi : X.N[i]? = some x) (hj : X.N[j]? = some y) (hij : i ≠ j)
    (hx : X.env.scope.names.lookup x = some .local) (hy : X.env.scope.names.lookup y = some .local) (ha : SVs X F [a, b] wr) (hw : swappedStores [.Tuple [.Name x px, .Name y py] kt pt] (.Tuple [a, b] k2 pt2) X.env = pure (some [x, y]))
    (hs : swapsWithSole [.Tuple [.Name x px, .Name y py] kt pt] (.Tuple [a, b] k2 pt2) pos.line X.env = pure false := by rfl) :
    SS X F (.Assign [.Tuple [.Name x px, .Name y py] kt pt] (.Tuple [a, b] k2 pt2) pos) (wPar i j wr) := by
  refine ⟨ps_imp (ps_par hc hN hi hj hij hx hy ha.pa hw hs) fun D σ H q => ?_, fun ρ E E' l q => ha.mono ρ _ _ (fun ss ⟨s, t, e, q⟩ => ⟨s, t, e, l.nx _ q⟩) q⟩
  obtain ⟨ρ, G, ow, R, q⟩ := q
  refine ⟨ρ, G, ow, R, ha.mono ρ _ _ (fun ss q vs H1 G1 os g1 d1 len f1 j1 => ?_) q⟩
  obtain ⟨s, t, rfl, q⟩ := q
  obtain ⟨v, o, hv, ho, dv⟩ := d1 0 s rfl
  obtain ⟨u, o', hu, ho', du⟩ := d1 1 t rfl
  have ev : vs = [v, u] := by
    match vs, len, hv, hu with
    | [v', u'], _, hv, hu => simp at hv hu; rw [hv, hu]
  subst ev
  have R1 := R.grow g1
  have F1 : Fresh F H1 G1 ow o := fresh_of R g1 fun p hp => f1 0 o p ho hp
  have R2 := R1.set (i := i) dv F1
  have F2 : Fresh F H1 G1 (own1 ow i o) o' := fun p hp => by
    obtain ⟨z1, z2, z3, z4⟩ := fresh_of R g1 (fun p hp => f1 1 o' p ho' hp) p hp
    refine ⟨z1, z2, z3, fun k hk => ?_⟩
    by_cases e : k = i
    · subst e
      rw [own1_same] at hk
      have := j1 0 1 o o' p ho ho' hk hp
      cases this
    · rw [own1_ne e] at hk; exact z4 k hk
  exact ⟨v, u, rfl, q _ H1 G1 _ (R2.set (i := j) du F2) g1.gg⟩

/-! ### lists of the def's own: append, extend, pop -/
variable {apos cpos p1 : Pos}
def wApp (i : Nat) (wa : WE) : WS := fun ρ E => ∃ xs, ρ[i]? = some (.l xs) ∧ wa ρ fun d => xs.length < sizeLine ∧ E.nx (ρ.set i (.l (xs ++ [d])))
theorem ss_app {i : Nat} {o : Expr} (ho : PE X o (tVar i)) (he : SE X F e wa)
    (hbase : attributeBase o "append" X.env (eval o X.env) = eval o X.env := by rfl)
    (hfew : ((backTo cpos (starEach (e :: []) X.env)).all (fun x => !x.1) && (backToKw cpos (keywordEach [] X.env)).all (fun x => x.1.isSome)
      && decide ((e :: []).length + ([] : List Keyword).length + (if ([] : List Keyword).isEmpty then 0 else 1) < 30)) = true := by rfl)
    (hline : (apos.endLine == cpos.line) = true := by rfl) (hs : starEach (e :: []) X.env = (false, eval e X.env) :: starEach [] X.env := by rfl) (hplain : (backTo cpos (starEach [] X.env)).any (·.1) = false := by rfl)
    (hsw : swapsWith (.Call (.Attribute o "append" apos) [e] [] cpos) none pos.line X.env = pure false := by rfl) :
    SS X F (.Expr (.Call (.Attribute o "append" apos) [e] [] cpos) pos) (wApp i wa) := by
  refine ⟨ps_imp (ps_expr (pe_bm PySem.F.plainAttrs_list PySem.F.slot_list_append PySem.F.type_list_append mt_append ho (pa_cons he.pe pa_nil hs) hbase hfew hline hs hplain) hsw) fun D σ H q => ?_, fun ρ E E' l ⟨xs, e, q⟩ => ⟨xs, e, he.mono ρ _ _ (fun d ⟨z, q⟩ => ⟨z, l.nx _ q⟩) q⟩⟩
  obtain ⟨ρ, G, ow, R, q⟩ := q
  obtain ⟨xs, ex, q⟩ := q
  obtain ⟨p, vs, o1, o2, o3, o4⟩ := R.sl i _ ex
  refine ⟨.ref p, o2, .inl ⟨rfl, vs, .inl (.inl o3)⟩, ρ, G, ow, R, he.mono ρ _ _ (fun d q v H1 G1 g1 d1 => ?_) q⟩
  obtain ⟨z, q⟩ := q
  have R1 := R.grow g1
  have hp : p ∈ ow i := by rw [o1]; simp
  have h1 : H1 p = some (.lst vs) := g1.hh p _ (R.notdk hp) o3 (fun _ e => by cases e)
  have dd : DqAll X.K G1 (vs ++ [v]) (xs ++ [d]) := dpa_app (dpa_mono g1.gg _ _ o4) (.cons d1 .nil)
  refine ⟨p, vs, v, rfl, rfl, h1, by rw [dpa_len o4]; exact z, ?_⟩
  exact q _ _ G1 ow (R1.putL ex o1 dd) g1.gg
def wExt (i : Nat) (wa : WE) : WS := fun ρ E => ∃ xs, ρ[i]? = some (.l xs) ∧ wa ρ fun d => ∃ ys, listD [d] = some (.list ys) ∧ xs.length + ys.length ≤ sizeLine ∧ E.nx (ρ.set i (.l (xs ++ ys)))
/-- pop() of a list of the def's own: the slots behind -/
def wPopE (i : Nat) : Env' → (PyData → Env' → Prop) → Prop := fun ρ Q => ∃ xs d, ρ[i]? = some (.l (xs ++ [d])) ∧ Q d (ρ.set i (.l xs))
theorem pop_lift {i : Nat} {K : PySem.W.Frag} {σ : St} {H : Hp} {Q : VK} (q : ∃ ρ G ow, Rep K F ρ σ H G ow ∧ wPopE i ρ fun d ρ' => ∀ v H' , Rep K F ρ' σ H' G ow → Dq K G v d → Q v H') : tBM0 K "list" rPop (tVar i) σ H Q := by
  obtain ⟨ρ, G, ow, R, xs, d, ex, q⟩ := q
  obtain ⟨p, vs, o1, o2, o3, o4⟩ := R.sl i _ ex
  have hl : vs.length = xs.length + 1 := by rw [dpa_len o4, List.length_append]; rfl
  have e1 : (xs ++ [d])[vs.length - 1]? = some d := by rw [hl]; simp
  obtain ⟨v, hv, dv⟩ := dpa_at o4 e1
  refine ⟨.ref p, o2, .inl ⟨rfl, vs, .inl (.inl o3)⟩, p, vs, v, rfl, rfl, o3, hv, ?_⟩
  have dd : DqAll K G vs.dropLast xs := by
    have := dpa_dropLast o4
    rw [List.dropLast_concat] at this
    exact this
  exact q v _ (R.putL ex o1 dd) dv
/-- x = ys.pop(), a, b = ys.pop(): any target -/
def OnlyAt (js : List Nat) (σ σ' : St) : Prop := σ'.length = σ.length ∧ ∀ j, j ∉ js → σ'[j]? = σ[j]?
def tGd (K : PySem.W.Frag) (F : Fx) (js : List Nat) (g : PyData → Env' → Option Env') : TG := fun v σ H Q => ∃ d ρ ρ' G ow, Rep K F ρ σ H G ow ∧ Dq K G v d ∧ g d ρ = some ρ' ∧ ∀ σ' ow', Rep K F ρ' σ' H G ow' → OnlyAt js σ σ' → Q σ' H
def tGds (K : PySem.W.Frag) (F : Fx) (js : List Nat) (g : List PyData → Env' → Option Env') : TGs := fun vs σ H Q => ∃ ds ρ ρ' G ow, Rep K F ρ σ H G ow ∧ DqAll K G vs ds ∧ g ds ρ = some ρ' ∧ ∀ σ' ow', Rep K F ρ' σ' H G ow' → OnlyAt js σ σ' → Q σ' H
/-- a target; js: the slots it may set -/
def SG (X : Cx) (F : Fx) (tg : Expr) (js : List Nat) (g : PyData → Env' → Option Env') : Prop := PG X tg (tGd X.K F js g)
def SGs (X : Cx) (F : Fx) (tgs : List Expr) (js : List Nat) (g : List PyData → Env' → Option Env') : Prop := PGs X tgs (tGds X.K F js g)
theorem pg_imp {X : Cx} {tg : Expr} {t t' : TG} (h : PG X tg t) (k : ∀ v σ H Q, t' v σ H Q → t v σ H Q) : PG X tg t' := ⟨fun pins s σ H v u Q I r q => h.run pins s σ H v u Q I r (k v σ H Q q)⟩
theorem pgs_imp {X : Cx} {tg : List Expr} {t t' : TGs} (h : PGs X tg t) (k : ∀ v σ H Q, t' v σ H Q → t v σ H Q) : PGs X tg t' := ⟨fun pins s σ H v u Q I r q => h.run pins s σ H v u Q I r (k v σ H Q q)⟩
def gN (i : Nat) : PyData → Env' → Option Env' := fun d ρ => some (ρ.set i (.d d))
theorem sg_name {i : Nat} {x : Str} (hN : X.N.Nodup) (hi : X.N[i]? = some x) (hx : Loc X.env.scope x) (hf : X.fn x = true ∨ X.env.scope.names.lookup x = some .local := by first | exact .inl rfl | exact .inr rfl | assumption) : SG X F (.Name x pos) [i] (gN i) := by
  refine pg_imp (pg_name hN hi hx hf) fun v σ H Q q => ?_
  obtain ⟨d, ρ, ρ', G, ow, R, h, e, q⟩ := q
  cases e
  exact q _ _ (R.set_d h) ⟨List.length_set .., fun j hj => List.getElem?_set_ne fun z => hj (by rw [z]; simp)⟩
def gNs : List PyData → Env' → Option Env'
  | [], ρ => some ρ
  | _, _ => none
def gC (g : PyData → Env' → Option Env') (gs : List PyData → Env' → Option Env') : List PyData → Env' → Option Env'
  | d :: ds, ρ => (g d ρ).bind (gs ds)
  | _, _ => none
theorem sgs_nil : SGs X F [] [] gNs := by
  refine pgs_imp pgs_nil fun vs σ H Q q => ?_
  obtain ⟨ds, ρ, ρ', G, ow, R, h, e, q⟩ := q
  cases h with
  | nil => cases e; exact ⟨rfl, q _ _ R ⟨rfl, fun _ _ => rfl⟩⟩
  | cons => cases e
theorem sgs_cons {g : PyData → Env' → Option Env'} {gs : List PyData → Env' → Option Env'} {js ks : List Nat} {tgs : List Expr} (h1 : SG X F e js g) (h2 : SGs X F tgs ks gs) (hs : (assignEach (e :: tgs) X.env).map (·.2) = assign e X.env :: (assignEach tgs X.env).map (·.2) := by rfl) : SGs X F (e :: tgs) (js ++ ks) (gC g gs) := by
  refine pgs_imp (pgs_cons h1 h2 hs) fun vs σ H Q q => ?_
  obtain ⟨ds, ρ, ρ', G, ow, R, h, e, q⟩ := q
  cases h with
  | nil => cases e
  | cons hd ha =>
    simp only [gC] at e
    cases e1 : g _ ρ with
    | none => rw [e1] at e; cases e
    | some ρ1 =>
      rw [e1] at e
      refine ⟨_, _, rfl, _, ρ, ρ1, G, ow, R, hd, e1, fun σ1 ow1 R1 o1 => ⟨_, ρ1, ρ', G, ow1, R1, ha, e, fun σ2 ow2 R2 o2 => q σ2 ow2 R2 ⟨o2.1.trans o1.1, fun j hj => ?_⟩⟩⟩
      rw [List.mem_append, not_or] at hj
      rw [o2.2 j hj.2, o1.2 j hj.1]
def gT (n : Nat) (gs : List PyData → Env' → Option Env') : PyData → Env' → Option Env'
  | .tuple ds, ρ => if ds.length = n then gs ds ρ else none
  | _, _ => none
theorem sg_tup {gs : List PyData → Env' → Option Env'} {tgs : List Expr} {js : List Nat} {k n : Nat} (hc : X.calm = true) (h : SGs X F tgs js gs) (hn : (assignEach tgs X.env).length = n := by rfl) (hst : (assignEach tgs X.env).findIdx? (·.1) = none := by rfl) : SG X F (.Tuple tgs k pos) js (gT n gs) := by
  refine pg_imp (pg_tup hc h hn hst) fun v σ H Q q => ?_
  obtain ⟨d, ρ, ρ', G, ow, R, hd, e, q⟩ := q
  cases hd with
  | tup h1 a1 =>
    simp only [gT] at e
    split at e
    · rename_i hl
      exact ⟨_, _, rfl, st_mono R.gr.sub h1, by rw [dpa_len a1]; exact hl, _, ρ, ρ', G, ow, R, a1, e, q⟩
    · cases e
  | _ => cases e
variable {tg : Expr} {js : List Nat} {g : PyData → Env' → Option Env'}
def wAsgG (g : PyData → Env' → Option Env') (wa : WE) : WS := fun ρ E => wa ρ fun d => ∃ ρ', g d ρ = some ρ' ∧ E.nx ρ'
/-- a target of any form = data -/
theorem ss_asg (hg : SG X F tg js g) (he : SE X F e wa) (hs : swapsWithSole [tg] e pos.line X.env = pure false := by rfl) (hw : swappedStores [tg] e X.env = pure none := by rfl) (h1 : (assignEach [tg] X.env).map (·.2) = [assign tg X.env] := by rfl) : SS X F (.Assign [tg] e pos) (wAsgG g wa) := by
  refine ⟨ps_imp (ps_asg he.pe hg hs hw h1) fun D σ H q => ?_, fun ρ E E' l q => he.mono ρ _ _ (fun d ⟨ρ', e, q⟩ => ⟨ρ', e, l.nx _ q⟩) q⟩
  obtain ⟨ρ, G, ow, R, q⟩ := q
  refine ⟨ρ, G, ow, R, he.mono ρ _ _ (fun d q v H1 G1 g1 d1 => ?_) q⟩
  obtain ⟨ρ', e, q⟩ := q
  exact ⟨d, ρ, ρ', G1, ow, R.grow g1, d1, e, fun σ' ow' R' _ => q σ' H1 G1 ow' R' g1.gg⟩
def wPop (i : Nat) (g : PyData → Env' → Option Env') : WS := fun ρ E => wPopE i ρ fun d ρ1 => ∃ ρ', g d ρ1 = some ρ' ∧ E.nx ρ'
theorem ss_pop {i : Nat} {o : Expr} (hg : SG X F tg js g) (ho : PE X o (tVar i)) (hbase : attributeBase o "pop" X.env (eval o X.env) = eval o X.env := by rfl) (hline : (apos.endLine == cpos.line) = true := by rfl)
    (hs : swapsWithSole [tg] (.Call (.Attribute o "pop" apos) [] [] cpos) pos.line X.env = pure false := by rfl) (hw : swappedStores [tg] (.Call (.Attribute o "pop" apos) [] [] cpos) X.env = pure none := by rfl) (h1 : (assignEach [tg] X.env).map (·.2) = [assign tg X.env] := by rfl) :
    SS X F (.Assign [tg] (.Call (.Attribute o "pop" apos) [] [] cpos) pos) (wPop i g) := by
  refine ⟨ps_imp (ps_asg (pe_bm0 PySem.F.plainAttrs_list PySem.F.slot_list_pop PySem.F.type_list_pop mt_pop ho hbase hline) hg hs hw h1) fun D σ H q => ?_, fun ρ E E' l ⟨xs, d, e, ρ', e2, q⟩ => ⟨xs, d, e, ρ', e2, l.nx _ q⟩⟩
  obtain ⟨ρ, G, ow, R, xs, d, ex, ρ', eg, q⟩ := q
  exact pop_lift ⟨ρ, G, ow, R, xs, d, ex, fun v H' R' dv => ⟨d, _, ρ', G, ow, R', dv, eg, fun σ' ow' R2 _ => q σ' H' G ow' R2 fun _ _ h => h⟩⟩
theorem ss_ext {i : Nat} {o : Expr} (ho : PE X o (tVar i)) (he : SEL X F e wr)
    (hbase : attributeBase o "extend" X.env (eval o X.env) = eval o X.env := by rfl)
    (hfew : ((backTo cpos (starEach (e :: []) X.env)).all (fun x => !x.1) && (backToKw cpos (keywordEach [] X.env)).all (fun x => x.1.isSome)
      && decide ((e :: []).length + ([] : List Keyword).length + (if ([] : List Keyword).isEmpty then 0 else 1) < 30)) = true := by rfl)
    (hline : (apos.endLine == cpos.line) = true := by rfl) (hs : starEach (e :: []) X.env = (false, eval e X.env) :: starEach [] X.env := by rfl) (hplain : (backTo cpos (starEach [] X.env)).any (·.1) = false := by rfl)
    (hsw : swapsWith (.Call (.Attribute o "extend" apos) [e] [] cpos) none pos.line X.env = pure false := by rfl) :
    SS X F (.Expr (.Call (.Attribute o "extend" apos) [e] [] cpos) pos) (wExt i (wAsL wr)) := by
  refine ⟨ps_imp (ps_expr (pe_bm PySem.F.plainAttrs_list PySem.F.slot_list_extend PySem.F.type_list_extend mt_extend ho (pa_cons he.pe pa_nil hs) hbase hfew hline hs hplain) hsw) fun D σ H q => ?_, fun ρ E E' l ⟨xs, e, q⟩ => ⟨xs, e, he.mono ρ _ _ (fun d ⟨ys, ey, z, q⟩ => ⟨ys, ey, z, l.nx _ q⟩) q⟩⟩
  obtain ⟨ρ, G, ow, R, xs, ex, q⟩ := q
  obtain ⟨p, vs, o1, o2, o3, o4⟩ := R.sl i _ ex
  refine ⟨.ref p, o2, .inl ⟨rfl, vs, .inl (.inl o3)⟩, ρ, G, ow, R, he.mono ρ _ _ (fun ds q b us H1 G1 g1 h0 g0 hb d1 => ?_) q⟩
  obtain ⟨ys, ey, z, q⟩ := q
  cases ey
  have R1 := R.grow g1
  have hp : p ∈ ow i := by rw [o1]; simp
  have h1 : H1 p = some (.lst vs) := g1.hh p _ (R.notdk hp) o3 (fun _ e => by cases e)
  have dd : DqAll X.K G1 (vs ++ us) (xs ++ ds) := dpa_app (dpa_mono g1.gg _ _ o4) d1
  exact ⟨p, b, vs, us, rfl, rfl, h1, hb, by rw [dpa_len o4, dpa_len d1]; exact z, q _ _ G1 ow (R1.putL ex o1 dd) g1.gg⟩
end
end DL
set_option maxRecDepth 100000
set_option maxHeartbeats 2000000
/-! # The data layer: what loops walk, for, while, += -/
namespace DL
open PySem PySem.Spec L2

/-- J walks these items as long as what was read as data at the beginning is there -/
structure WalkD (K : PySem.W.Frag) (dk : DK) (J : It) (G1 : Hp) (items : List PyData) : Prop where
  goes : ∀ i H G, i < items.length → Same G1 G → Same G H → J.go i H
  stops : ∀ H G, Same G1 G → Same G H → J.stop items.length H
  yields : ∀ i H G x H', i < items.length → Same G1 G → Same G H → DkOk dk H G → J.yld i H x H' → ∃ G' d, Grow dk H G H' G' ∧ items[i]? = some d ∧ Dq K G' x d
def liftI (K : PySem.W.Frag) (F : Fx) (w : WA) : TI := fun σ H R => ∃ ρ G ow, Rep K F ρ σ H G ow ∧ w ρ fun items => ∀ J H' G', Grow F.dk H G H' G' → WalkD K F.dk J G' items → R J H'
structure SI (X : Cx) (F : Fx) (tg it : Expr) (w : WA) : Prop where
  pi : PI X tg it (liftI X.K F w)
  mono : Mono w
theorem pi_imp {X : Cx} {tg e : Expr} {t t' : TI} (h : PI X tg e t) (k : ∀ σ H R, t' σ H R → t σ H R) : PI X tg e t' := ⟨fun pins s σ H R I q => h.run pins s σ H R I (k σ H R q)⟩
section
variable {K : PySem.W.Frag} {dk : DK} {G1 : Hp} {a b : Addr} {vs us : List V} {xs ys : List PyData}
theorem wd_list (h : G1 a = some (.lst vs)) (ha : DqAll K G1 vs xs) : WalkD K dk (Itl K a) G1 xs := by
  have w := walk_list (K := K) (a := a) (xs := vs)
  have q : ∀ {H G : Hp}, Same G1 G → Same G H → SqL K H a vs := fun s1 s2 => .inl (.inl (s2 _ _ (s1 _ _ h)))
  refine ⟨fun i H G hi s1 s2 => w.goes i H (by rw [dpa_len ha]; exact hi) (q s1 s2), fun H G s1 s2 => ?_, fun i H G x H' hi s1 s2 d y => ?_⟩
  · rw [← dpa_len ha]; exact w.stops H (q s1 s2)
  · obtain ⟨rfl, hx⟩ := w.yields i H x H' (by rw [dpa_len ha]; exact hi) (q s1 s2) y
    obtain ⟨e, he, de⟩ := dpa_get ha hx
    exact ⟨G, e, grow_refl s2 d, he, dp_mono s1 _ _ de⟩
theorem wd_tup (h : SqT K G1 a vs) (ha : DqAll K G1 vs xs) : WalkD K dk (Itt K a) G1 xs := by
  have w := walk_tup (K := K) (a := a) (xs := vs)
  have q : ∀ {H G : Hp}, Same G1 G → Same G H → SqT K H a vs := fun s1 s2 => st_mono s2 (st_mono s1 h)
  refine ⟨fun i H G hi s1 s2 => w.goes i H (by rw [dpa_len ha]; exact hi) (q s1 s2), fun H G s1 s2 => ?_, fun i H G x H' hi s1 s2 d y => ?_⟩
  · rw [← dpa_len ha]; exact w.stops H (q s1 s2)
  · obtain ⟨rfl, hx⟩ := w.yields i H x H' (by rw [dpa_len ha]; exact hi) (q s1 s2) y
    obtain ⟨e, he, de⟩ := dpa_get ha hx
    exact ⟨G, e, grow_refl s2 d, he, dp_mono s1 _ _ de⟩
theorem wd_revL (h : G1 a = some (.lst vs)) (ha : DqAll K G1 vs xs) : WalkD K dk (Itv K a vs.length) G1 xs.reverse := by
  have w := walk_rev (K := K) (a := a) (xs := vs)
  have q : ∀ {H G : Hp}, Same G1 G → Same G H → SqL K H a vs := fun s1 s2 => .inl (.inl (s2 _ _ (s1 _ _ h)))
  have hl : xs.reverse.length = vs.length := by rw [List.length_reverse, dpa_len ha]
  refine ⟨fun i H G hi s1 s2 => w.goes i H (by rw [← hl]; exact hi) (q s1 s2), fun H G s1 s2 => by rw [hl]; exact w.stops H (q s1 s2), fun i H G x H' hi s1 s2 d y => ?_⟩
  obtain ⟨rfl, hx⟩ := w.yields i H x H' (by rw [← hl]; exact hi) (q s1 s2) y
  obtain ⟨e, he, de⟩ := dpa_get ha hx
  refine ⟨G, e, grow_refl s2 d, ?_, dp_mono s1 _ _ de⟩
  rw [List.length_reverse] at hi
  rw [List.getElem?_reverse hi, ← dpa_len ha]; exact he
theorem wd_revT (h : SqT K G1 a vs) (ha : DqAll K G1 vs xs) : WalkD K dk (RT.ItvT K a vs.length) G1 xs.reverse := by
  have q : ∀ {H G : Hp}, Same G1 G → Same G H → SqT K H a vs := fun s1 s2 => st_mono s2 (st_mono s1 h)
  have hl : xs.reverse.length = vs.length := by rw [List.length_reverse, dpa_len ha]
  refine ⟨fun i H G hi s1 s2 => ⟨by omega, vs, vs[vs.length - 1 - i]'(by omega), q s1 s2, by simp [show vs.length - 1 - i < vs.length by omega]⟩, fun H G s1 s2 => Nat.le_of_eq hl.symm, fun i H G x H' hi s1 s2 d y => ?_⟩
  obtain ⟨rfl, hx⟩ := y
  obtain ⟨e, he, de⟩ := dpa_get ha (hx vs (q s1 s2))
  refine ⟨G, e, grow_refl s2 d, ?_, dp_mono s1 _ _ de⟩
  rw [List.length_reverse] at hi
  rw [List.getElem?_reverse hi, ← dpa_len ha]; exact he
def signsD (z : Str) : List PyData := z.cps.toList.map fun c => .str ⟨#[c]⟩
theorem wd_str {z : Str} : WalkD K dk (Its z) G1 (signsD z) := by
  have hl : (signsD z).length = z.cps.size := by simp [signsD]
  refine ⟨fun i H G hi _ _ => by show i < z.cps.size; omega, fun H G _ _ => by show z.cps.size ≤ _; omega, fun i H G x H' hi s1 s2 d y => ?_⟩
  obtain ⟨rfl, c, hc, rfl⟩ := y
  exact ⟨G, _, grow_refl s2 d, by simp [signsD, hc], .str _⟩
def rangeD (lo : Int) (n : Nat) : List PyData := (List.range n).map fun (i : Nat) => .int (lo + (i : Int))
theorem wd_range {lo : Int} {n : Nat} : WalkD K dk (Itr lo n) G1 (rangeD lo n) := by
  have hl : (rangeD lo n).length = n := by simp [rangeD]
  refine ⟨fun i H G hi _ _ => by show i < n; omega, fun H G _ _ => by show n ≤ _; omega, fun i H G x H' hi s1 s2 d y => ?_⟩
  obtain ⟨rfl, rfl⟩ := y
  exact ⟨G, _, grow_refl s2 d, by simp [rangeD, show i < n by omega], .int _⟩
def enumD (xs : List PyData) : List PyData := xs.zipIdx.map fun p => .tuple [.int p.2, p.1]
theorem pair_of {H G H' : Hp} {x u v : V} {p q : PyData} (s : Same G H) (d : DkOk dk H G) (h1 : Dq K G u p) (h2 : Dq K G v q) (y : ∃ T, x = .ref T ∧ H T = none ∧ H' = upd H T (.tup [u, v])) : ∃ G', Grow dk H G H' G' ∧ Dq K G' x (.tuple [p, q]) := by
  obtain ⟨T, rfl, hT, rfl⟩ := y
  have g := Grow.new (o := .tup [u, v]) s d hT
  exact ⟨_, g, .tup (.inl (.inl upd_same)) (.cons (dp_mono g.gg _ _ h1) (.cons (dp_mono g.gg _ _ h2) .nil))⟩
theorem wd_enumL (h : G1 a = some (.lst vs)) (ha : DqAll K G1 vs xs) : WalkD K dk (Ite K a) G1 (enumD xs) := by
  have w := walk_enum (K := K) (a := a) (xs := vs)
  have q : ∀ {H G : Hp}, Same G1 G → Same G H → SqL K H a vs := fun s1 s2 => .inl (.inl (s2 _ _ (s1 _ _ h)))
  have hl : (enumD xs).length = vs.length := by rw [dpa_len ha]; simp [enumD]
  refine ⟨fun i H G hi s1 s2 => w.goes i H (by omega) (q s1 s2), fun H G s1 s2 => by rw [hl]; exact w.stops H (q s1 s2), fun i H G x H' hi s1 s2 d y => ?_⟩
  obtain ⟨T, p, v, h1, h2, h3, h4, h5⟩ := w.yields i H x H' (by omega) (q s1 s2) y
  cases h4
  obtain ⟨e, he, de⟩ := dpa_get ha h5
  obtain ⟨G', g, dd⟩ := pair_of s2 d (.int (i : Nat)) (dp_mono s1 _ _ de) ⟨T, h1, h2, h3⟩
  exact ⟨G', _, g, by simp [enumD, List.getElem?_zipIdx, he], dd⟩
def zipD (xs ys : List PyData) : List PyData := (xs.zip ys).map fun p => .tuple [p.1, p.2]
theorem wd_zipL (h : G1 a = some (.lst vs)) (ha : DqAll K G1 vs xs) (h' : G1 b = some (.lst us)) (ha' : DqAll K G1 us ys) : WalkD K dk (Itz K a b) G1 (zipD xs ys) := by
  have hl : (zipD xs ys).length = min vs.length us.length := by rw [dpa_len ha, dpa_len ha']; simp [zipD]
  have w := walk_zip (K := K) (a := a) (b := b) (xs := vs) (ys := us) hl
  have q : ∀ {H G : Hp}, Same G1 G → Same G H → SqL K H a vs ∧ SqL K H b us := fun s1 s2 => ⟨.inl (.inl (s2 _ _ (s1 _ _ h))), .inl (.inl (s2 _ _ (s1 _ _ h')))⟩
  refine ⟨fun i H G hi s1 s2 => w.goes i H hi (q s1 s2), fun H G s1 s2 => w.stops H (q s1 s2), fun i H G x H' hi s1 s2 d y => ?_⟩
  obtain ⟨T, p, v, h1, h2, h3, h4, h5⟩ := w.yields i H x H' hi (q s1 s2) y
  obtain ⟨e, he, de⟩ := dpa_get ha h4
  obtain ⟨e', he', de'⟩ := dpa_get ha' h5
  obtain ⟨G', g, dd⟩ := pair_of s2 d (dp_mono s1 _ _ de) (dp_mono s1 _ _ de') ⟨T, h1, h2, h3⟩
  exact ⟨G', _, g, by simp [zipD, List.getElem?_zip_eq_some, he, he'], dd⟩
theorem wd_zipT (h : SqT K G1 a vs) (ha : DqAll K G1 vs xs) (h' : SqT K G1 b us) (ha' : DqAll K G1 us ys) : WalkD K dk (RZ.ItzT K a b) G1 (zipD xs ys) := by
  have hl : (zipD xs ys).length = min vs.length us.length := by rw [dpa_len ha, dpa_len ha']; simp [zipD]
  have q : ∀ {H G : Hp}, Same G1 G → Same G H → SqT K H a vs ∧ SqT K H b us := fun s1 s2 => ⟨st_mono s2 (st_mono s1 h), st_mono s2 (st_mono s1 h')⟩
  refine ⟨fun i H G hi s1 s2 => ?_, fun H G s1 s2 => ⟨vs, us, (q s1 s2).1, (q s1 s2).2, by omega⟩, fun i H G x H' hi s1 s2 d y => ?_⟩
  · have h1 : i < vs.length := by omega
    have h2 : i < us.length := by omega
    exact ⟨vs, us, vs[i], us[i], (q s1 s2).1, (q s1 s2).2, by simp [h1], by simp [h2]⟩
  · obtain ⟨T, p, v, h1, h2, h3, h4, h5⟩ := y
    obtain ⟨e, he, de⟩ := dpa_get ha (h4 vs (q s1 s2).1)
    obtain ⟨e', he', de'⟩ := dpa_get ha' (h5 us (q s1 s2).2)
    obtain ⟨G', g, dd⟩ := pair_of s2 d (dp_mono s1 _ _ de) (dp_mono s1 _ _ de') ⟨T, h1, h2, h3⟩
    exact ⟨G', _, g, by simp [zipD, List.getElem?_zip_eq_some, he, he'], dd⟩
end

/-! ### what a loop is written over -/
section
variable {X : Cx} {F : Fx} {tg a b c e : Expr} {es : List Expr} {pos p tpos : Pos} {wa wb : WE} {wr : WA}
def wIL (wa : WE) : WA := fun ρ Q => wa ρ fun d => ∃ xs, d = .list xs ∧ Q xs
def wIT (wa : WE) : WA := fun ρ Q => wa ρ fun d => ∃ xs, d = .tuple xs ∧ Q xs
def wIS (wa : WE) : WA := fun ρ Q => wa ρ fun d => ∃ z, d = .str z ∧ Q (signsD z)
theorem si_list (h : SE X F e wa) : SI X F tg e (wIL wa) := by
  refine ⟨pi_imp (pi_list h.pe) fun σ H R q => ?_, fun ρ Q Q' k q => h.mono ρ _ _ (fun d ⟨xs, e, q⟩ => ⟨xs, e, k _ q⟩) q⟩
  obtain ⟨ρ, G, ow, rp, q⟩ := q
  refine ⟨ρ, G, ow, rp, h.mono ρ _ _ (fun d q v H1 G1 g1 d1 => ?_) q⟩
  obtain ⟨xs, rfl, q⟩ := q
  cases d1 with
  | lst h1 a1 => exact ⟨_, rfl, ⟨_, .inl (.inl (g1.sub _ _ h1))⟩, q _ H1 G1 g1 (wd_list h1 a1)⟩
theorem si_tup (h : SE X F e wa) : SI X F tg e (wIT wa) := by
  refine ⟨pi_imp (pi_tup h.pe) fun σ H R q => ?_, fun ρ Q Q' k q => h.mono ρ _ _ (fun d ⟨xs, e, q⟩ => ⟨xs, e, k _ q⟩) q⟩
  obtain ⟨ρ, G, ow, rp, q⟩ := q
  refine ⟨ρ, G, ow, rp, h.mono ρ _ _ (fun d q v H1 G1 g1 d1 => ?_) q⟩
  obtain ⟨xs, rfl, q⟩ := q
  cases d1 with
  | tup h1 a1 => exact ⟨_, rfl, ⟨_, st_mono g1.sub h1⟩, q _ H1 G1 g1 (wd_tup h1 a1)⟩
theorem si_str (h : SE X F e wa) : SI X F tg e (wIS wa) := by
  refine ⟨pi_imp (pi_str h.pe) fun σ H R q => ?_, fun ρ Q Q' k q => h.mono ρ _ _ (fun d ⟨xs, e, q⟩ => ⟨xs, e, k _ q⟩) q⟩
  obtain ⟨ρ, G, ow, rp, q⟩ := q
  refine ⟨ρ, G, ow, rp, h.mono ρ _ _ (fun d q v H1 G1 g1 d1 => ?_) q⟩
  obtain ⟨z, rfl, q⟩ := q
  cases d1 with
  | str => exact ⟨z, rfl, q _ H1 G1 g1 wd_str⟩
def smallI (i : Int) : Prop := -(2 ^ 62) ≤ i ∧ i < 2 ^ 62
def wR1 (wa : WE) : WA := fun ρ Q => wa ρ fun d => ∃ j, d = .int j ∧ smallI j ∧ Q (rangeD 0 j.toNat)
def wR2 (wa wb : WE) : WA := fun ρ Q => wa ρ fun x => wb ρ fun y => ∃ i j, x = .int i ∧ y = .int j ∧ smallI i ∧ smallI j ∧ Q (rangeD i (j - i).toNat)
theorem si_range1 (hg : Gl X "range") (hm : X.mg "range" = none) (h : SE X F a wa) (hs : starEach [a] X.env = [(false, eval a X.env)] := by rfl) : SI X F tg (.Call (.Name "range" p) [a] [] pos) (wR1 wa) := by
  refine ⟨pi_imp (pi_range1 hg hm (pa_cons h.pe pa_nil hs) hs) fun σ H R q => ?_, fun ρ Q Q' k q => h.mono ρ _ _ (fun d ⟨j, e, s, q⟩ => ⟨j, e, s, k _ q⟩) q⟩
  obtain ⟨ρ, G, ow, rp, q⟩ := q
  refine ⟨ρ, G, ow, rp, h.mono ρ _ _ (fun d q v H1 G1 g1 d1 => ?_) q⟩
  obtain ⟨j, rfl, s, q⟩ := q
  cases d1
  exact ⟨j, rfl, s.1, s.2, q _ H1 G1 g1 wd_range⟩
theorem si_range2 (hg : Gl X "range") (hm : X.mg "range" = none) (ha : SE X F a wa) (hb : SE X F b wb) (hs : starEach [a, b] X.env = [(false, eval a X.env), (false, eval b X.env)] := by rfl) (hs2 : starEach [b] X.env = [(false, eval b X.env)] := by rfl) : SI X F tg (.Call (.Name "range" p) [a, b] [] pos) (wR2 wa wb) := by
  have e2 : starEach [a, b] X.env = (false, eval a X.env) :: starEach [b] X.env := by rw [hs, hs2]
  refine ⟨pi_imp (pi_range2 hg hm (pa_cons ha.pe (pa_cons hb.pe pa_nil hs2) e2) hs hs2) fun σ H R q => ?_, fun ρ Q Q' k q => ha.mono ρ _ _ (fun x q => hb.mono ρ _ _ (fun y ⟨i, j, e, e', s, s', q⟩ => ⟨i, j, e, e', s, s', k _ q⟩) q) q⟩
  obtain ⟨ρ, G, ow, rp, q⟩ := q
  refine ⟨ρ, G, ow, rp, ha.mono ρ _ _ (fun x q v H1 G1 g1 d1 => ?_) q⟩
  refine ⟨ρ, G1, ow, rp.grow g1, hb.mono ρ _ _ (fun y q u H2 G2 g2 d2 => ?_) q⟩
  obtain ⟨i, j, rfl, rfl, s, s', q⟩ := q
  cases d1; cases d2
  exact ⟨i, j, rfl, ⟨s.1, s.2, s'.1, s'.2⟩, q _ H2 G2 (g1.trans g2 rp.dkok) wd_range⟩
def wRev (wa : WE) : WA := fun ρ Q => wa ρ fun d => ∃ xs, (d = .list xs ∨ d = .tuple xs) ∧ Q xs.reverse
theorem si_rev (hg : Gl X "reversed") (hm : X.mg "reversed" = none) (h : SE X F a wa) (hs : starEach [a] X.env = (false, eval a X.env) :: starEach [] X.env := by rfl) : SI X F tg (.Call (.Name "reversed" p) [a] [] pos) (wRev wa) := by
  refine ⟨pi_imp (RT.pi_revA hg hm h.pe hs) fun σ H R q => ?_, fun ρ Q Q' k q => h.mono ρ _ _ (fun d ⟨xs, e, q⟩ => ⟨xs, e, k _ q⟩) q⟩
  obtain ⟨ρ, G, ow, rp, q⟩ := q
  refine ⟨ρ, G, ow, rp, h.mono ρ _ _ (fun d q v H1 G1 g1 d1 => ?_) q⟩
  obtain ⟨xs, e, q⟩ := q
  rcases e with rfl | rfl
  · cases d1 with
    | lst h1 a1 => exact ⟨_, _, rfl, .inl ⟨.inl (.inl (g1.sub _ _ h1)), q _ H1 G1 g1 (wd_revL h1 a1)⟩⟩
  · cases d1 with
    | tup h1 a1 => exact ⟨_, _, rfl, .inr ⟨st_mono g1.sub h1, q _ H1 G1 g1 (wd_revT h1 a1)⟩⟩
variable {elts : List Expr} {kk : Nat}
def wEnL (wa : WE) : WA := fun ρ Q => wa ρ fun d => ∃ xs, d = .list xs ∧ Q (enumD xs)
theorem si_enumL (hg : Gl X "enumerate") (hm : X.mg "enumerate" = none) (h : SE X F a wa) (hs : starEach [a] X.env = [(false, eval a X.env)] := by rfl) : SI X F (.Tuple elts kk tpos) (.Call (.Name "enumerate" p) [a] [] pos) (wEnL wa) := by
  refine ⟨pi_imp (pi_enum hg hm (pa_cons h.pe pa_nil hs) hs) fun σ H R q => ?_, fun ρ Q Q' k q => h.mono ρ _ _ (fun d ⟨xs, e, q⟩ => ⟨xs, e, k _ q⟩) q⟩
  obtain ⟨ρ, G, ow, rp, q⟩ := q
  refine ⟨ρ, G, ow, rp, h.mono ρ _ _ (fun d q v H1 G1 g1 d1 => ?_) q⟩
  obtain ⟨xs, rfl, q⟩ := q
  cases d1 with
  | lst h1 a1 => exact ⟨_, _, rfl, .inl (.inl (g1.sub _ _ h1)), q _ H1 G1 g1 (wd_enumL h1 a1)⟩
/-- zip of two lists, of two tuples -/
def seq2D : PyData → PyData → Option (List PyData × List PyData)
  | .list xs, .list ys => some (xs, ys)
  | .tuple xs, .tuple ys => some (xs, ys)
  | _, _ => none
def wZip (wa wb : WE) : WA := fun ρ Q => wa ρ fun x => wb ρ fun y => ∃ z, seq2D x y = some z ∧ Q (zipD z.1 z.2)
theorem si_zip (hg : Gl X "zip") (hm : X.mg "zip" = none) (ha : SE X F a wa) (hb : SE X F b wb) (hs : starEach [a, b] X.env = (false, eval a X.env) :: starEach [b] X.env := by rfl) (hs2 : starEach [b] X.env = (false, eval b X.env) :: starEach [] X.env := by rfl) (hpl : (backTo pos (starEach [b] X.env)).any (·.1) = false := by rfl) :
    SI X F (.Tuple elts kk tpos) (.Call (.Name "zip" p) [a, b] [] pos) (wZip wa wb) := by
  refine ⟨pi_imp (RZ.pi_zipA hg hm (pa_cons ha.pe (pa_cons hb.pe pa_nil hs2) hs) hs hpl) fun σ H R q => ?_, fun ρ Q Q' k q => ha.mono ρ _ _ (fun x q => hb.mono ρ _ _ (fun y ⟨z, e, q⟩ => ⟨z, e, k _ q⟩) q) q⟩
  obtain ⟨ρ, G, ow, rp, q⟩ := q
  refine ⟨ρ, G, ow, rp, ha.mono ρ _ _ (fun x q v H1 G1 g1 d1 => ?_) q⟩
  refine ⟨ρ, G1, ow, rp.grow g1, hb.mono ρ _ _ (fun y q u H2 G2 g2 d2 => ?_) q⟩
  obtain ⟨z, e, q⟩ := q
  have g := g1.trans g2 rp.dkok
  cases d1 with
  | lst h1 a1 =>
    cases d2 with
    | lst h2 a2 => cases e; exact ⟨_, _, _, _, rfl, .inl ⟨.inl (.inl (g.sub _ _ (g2.gg _ _ h1))), .inl (.inl (g.sub _ _ h2)), q _ H2 G2 g (wd_zipL (g2.gg _ _ h1) (dpa_mono g2.gg _ _ a1) h2 a2)⟩⟩
    | _ => cases e
  | tup h1 a1 =>
    cases d2 with
    | tup h2 a2 => cases e; exact ⟨_, _, _, _, rfl, .inr ⟨st_mono g.sub (st_mono g2.gg h1), st_mono g.sub h2, q _ H2 G2 g (wd_zipT (st_mono g2.gg h1) (dpa_mono g2.gg _ _ a1) h2 a2)⟩⟩
    | _ => cases e
  | _ => cases e

/-! ### for -/
variable {js : List Nat} {g : PyData → Env' → Option Env'} {body : List Stmt} {w1 : WS} {wi : WA}
def forD (g : PyData → Env' → Option Env') (wb : WS) (E : En) : List PyData → Env' → Prop
  | [], ρ => E.nx ρ
  | d :: ds, ρ => ∃ ρ', g d ρ = some ρ' ∧ wb ρ' { E with nx := forD g wb E ds, ct := forD g wb E ds, bk := E.nx }
theorem forD_mono {g : PyData → Env' → Option Env'} {wb : WS} (hb : MonoS wb) {E E' : En} (l : En.le E E') : ∀ (ds : List PyData) (ρ : Env'), forD g wb E ds ρ → forD g wb E' ds ρ
  | [], ρ, h => l.nx ρ h
  | d :: ds, ρ, ⟨ρ', e, h⟩ => ⟨ρ', e, hb ρ' { E with nx := forD g wb E ds, ct := forD g wb E ds, bk := E.nx } _ ⟨forD_mono hb l ds, l.rt, l.nx, forD_mono hb l ds⟩ h⟩
def wFor (wi : WA) (g : PyData → Env' → Option Env') (wb : WS) : WS := fun ρ E => wi ρ fun items => forD g wb E items ρ
theorem ss_for (hp : PassesOwn (model X.prog X.w) X.A X.env X.xe) (hc : X.calm = true) (hi : SI X F tg e wi) (hg : SG X F tg js g) (hb : SSs X F body w1) (hs : ∀ x, foldedSetIterable e X.env x = pure x := by intro _; rfl) : SS X F (.For tg e body [] pos) (wFor wi g w1) := by
  refine ⟨ps_imp (ps_for hp hc hi.pi hg hb.ps hs) fun D σ H q => ?_, fun ρ E E' l q => hi.mono ρ _ _ (fun items q => forD_mono hb.mono l items ρ q) q⟩
  obtain ⟨ρ, G, ow, R, q⟩ := q
  refine ⟨ρ, G, ow, R, hi.mono ρ _ _ (fun items q J H1 G1 g1 wd => ?_) q⟩
  have R1 := R.grow g1
  refine ⟨fun i m σ H => m = items.length - i ∧ i ≤ items.length ∧ ∃ ρ G ow, Rep X.K F ρ σ H G ow ∧ Same G1 G ∧ forD g w1 (liftEn X.K F G D) (items.drop i) ρ, ⟨_, rfl, Nat.zero_le _, ρ, G1, ow, R1, fun _ _ h => h, by rw [List.drop_zero]; exact forD_mono hb.mono (liftEn_mono g1.gg) _ _ q⟩, ?_⟩
  rintro i m σ H ⟨rfl, hi', ρ, G2, ow, R2, s2, q⟩
  by_cases hlt : i < items.length
  · refine .inr ⟨wd.goes i H G2 hlt s2 R2.gr.sub, fun σ' H' => i + 1 ≤ items.length ∧ ∃ ρ G ow, Rep X.K F ρ σ' H' G ow ∧ Same G1 G ∧ forD g w1 (liftEn X.K F G D) (items.drop (i + 1)) ρ, fun σ' H' ⟨h1, h2⟩ => ⟨items.length - (i + 1), by omega, rfl, h1, h2⟩, fun x H' y => ?_⟩
    obtain ⟨G3, d, g3, hd, dd⟩ := wd.yields i H G2 x H' hlt s2 R2.gr.sub R2.dkok y
    rw [List.drop_eq_getElem_cons hlt] at q
    have hd' : items[i] = d := by rw [List.getElem?_eq_getElem hlt] at hd; cases hd; rfl
    rw [hd'] at q
    obtain ⟨ρ', eg, q⟩ := q
    have R3 := R2.grow g3
    refine ⟨d, ρ, ρ', G3, ow, R3, dd, eg, fun σ4 ow4 R4 _ => ⟨ρ', G3, ow4, R4, ?_⟩⟩
    have rest : ∀ ρ2, forD g w1 (liftEn X.K F G2 D) (items.drop (i + 1)) ρ2 → liftN X.K F G3 (fun σ' H' => i + 1 ≤ items.length ∧ ∃ ρ G ow, Rep X.K F ρ σ' H' G ow ∧ Same G1 G ∧ forD g w1 (liftEn X.K F G D) (items.drop (i + 1)) ρ) ρ2 := fun ρ2 q2 σ5 H5 G5 ow5 R5 s5 => by
      have s25 : Same G2 G5 := fun b o z => s5 b o (g3.gg b o z)
      exact ⟨hlt, ρ2, G5, ow5, R5, fun b o z => s25 b o (s2 b o z), forD_mono hb.mono (liftEn_mono s25) _ _ q2⟩
    refine hb.mono ρ' _ _ ?_ q
    exact ⟨rest, fun _ h => h, fun ρ2 h => liftN_mono g3.gg ρ2 h, rest⟩
  · have e : i = items.length := by omega
    subst e
    rw [List.drop_length] at q
    exact .inl ⟨wd.stops H G2 s2 R2.gr.sub, q σ H G2 ow R2 fun _ _ h => h⟩

/-! ### while -/
variable {wt : WT}
def wWhile (wt : WT) (wb : WS) : WS := fun ρ E => ∃ P : Nat → Env' → Prop, (∃ m, P m ρ) ∧ ∀ m ρ, P m ρ → wt ρ fun k => if k = true then wb ρ { E with nx := fun ρ' => ∃ m', m' < m ∧ P m' ρ', ct := fun ρ' => ∃ m', m' < m ∧ P m' ρ', bk := E.nx } else E.nx ρ
theorem ss_while (hp : PassesOwn (model X.prog X.w) X.A X.env X.xe) (hc : ST X F c wt) (hb : SSs X F body w1) : SS X F (.While c body [] pos) (wWhile wt w1) := by
  refine ⟨ps_imp (ps_while hp hc.pt hb.ps) fun D σ H q => ?_, fun ρ E E' l q => ?_⟩
  · obtain ⟨ρ, G, ow, R, P, ⟨m, p⟩, q⟩ := q
    refine ⟨fun m σ H => ∃ ρ G2 ow, Rep X.K F ρ σ H G2 ow ∧ Same G G2 ∧ P m ρ, ⟨m, ρ, G, ow, R, fun _ _ h => h, p⟩, ?_⟩
    rintro m σ H ⟨ρ, G2, ow, R2, s2, p⟩
    refine ⟨ρ, G2, ow, R2, hc.mono ρ _ _ (fun k q H3 G3 g3 => ?_) (q m ρ p)⟩
    have R3 := R2.grow g3
    have s3 : Same G G3 := fun b o z => g3.gg b o (s2 b o z)
    cases k with
    | true =>
      refine ⟨fun σ' H' => ∃ m', m' < m ∧ ∃ ρ G2 ow, Rep X.K F ρ σ' H' G2 ow ∧ Same G G2 ∧ P m' ρ, fun σ' H' h => h, ρ, G3, ow, R3, ?_⟩
      refine hb.mono ρ _ _ ?_ q
      refine ⟨?_, fun _ h => h, fun ρ2 h => liftN_mono s3 ρ2 h, ?_⟩
      all_goals
        rintro ρ2 ⟨m', hm, p'⟩ σ5 H5 G5 ow5 R5 s5
        exact ⟨m', hm, ρ2, G5, ow5, R5, fun b o z => s5 b o (s3 b o z), p'⟩
    | false => exact q σ H3 G3 ow R3 s3
  · obtain ⟨P, h0, q⟩ := q
    refine ⟨P, h0, fun m ρ p => hc.mono ρ _ _ (fun k q => ?_) (q m ρ p)⟩
    cases k with
    | true =>
      refine hb.mono ρ _ _ ?_ q
      exact ⟨fun _ h => h, l.rt, l.nx, fun _ h => h⟩
    | false => exact l.nx ρ q

/-! ### x += number -/
def wAug (i : Nat) (wa : WE) : WS := fun ρ E => ∃ k, ρ[i]? = some (.d (.int k)) ∧ wa ρ fun d => ∃ j, d = .int j ∧ E.nx (ρ.set i (.d (.int (k + j))))
theorem ss_aug {i : Nat} {x : Str} {pos' : Pos} (hN : X.N.Nodup) (hi : X.N[i]? = some x) (hx : Loc X.env.scope x) (he : SE X F e wa) (hf : X.fn x = true ∨ X.env.scope.names.lookup x = some .local := by first | exact .inl rfl | exact .inr rfl | assumption) : SS X F (.AugAssign (.Name x pos') .Add e pos) (wAug i wa) := by
  refine ⟨ps_imp (ps_aug hN hi hx he.pe ip_add hf) fun D σ H q => ?_, fun ρ E E' l ⟨k, h, q⟩ => ⟨k, h, he.mono ρ _ _ (fun d ⟨j, e, q⟩ => ⟨j, e, l.nx _ q⟩) q⟩⟩
  obtain ⟨ρ, G, ow, R, k, hk, q⟩ := q
  obtain ⟨_, v, hv, dv⟩ := R.sl i _ hk
  cases dv
  refine ⟨_, hv, ρ, G, ow, R, he.mono ρ _ _ (fun d q v H1 G1 g1 d1 => ?_) q⟩
  obtain ⟨j, rfl, q⟩ := q
  cases d1
  exact ⟨k, j, rfl, rfl, q _ H1 G1 _ ((R.grow g1).set_d (.int (k + j))) g1.gg⟩
end
end DL
set_option maxRecDepth 100000
set_option maxHeartbeats 2000000
/-! # The data layer: list comprehensions -/
namespace DL
open PySem PySem.Spec L2

def unAll : List Nat → Env' → Env'
  | [], ρ => ρ
  | v :: vs, ρ => (unAll vs ρ).set v .un
theorem rep_wipe {K : PySem.W.Frag} {F : Fx} {ρ : Env'} {σ : St} {H G : Hp} {ow : Nat → List Addr} (R : Rep K F ρ σ H G ow) : ∀ vs : List Nat, ∃ ow', Rep K F (unAll vs ρ) (wipe σ vs) H G ow'
  | [] => ⟨ow, R⟩
  | v :: vs => by
    obtain ⟨ow', R'⟩ := rep_wipe R vs
    exact ⟨_, R'.forget⟩
theorem wipe_get {σ : St} {j : Nat} : ∀ {vs : List Nat}, j ∈ vs → (wipe σ vs)[j]? = if j < σ.length then some none else none
  | [], h => by simp at h
  | v :: vs, h => by
    unfold wipe
    by_cases e : v = j
    · subst e
      by_cases hl : v < σ.length
      · rw [List.getElem?_set_self (by rw [wipe_length]; exact hl), if_pos hl]
      · rw [List.getElem?_eq_none (by rw [List.length_set, wipe_length]; omega), if_neg hl]
    · rw [List.getElem?_set_ne e]
      exact wipe_get (by simpa [Ne.symm e] using h)
theorem wipe_only {σ σ' : St} {js vs : List Nat} (h : OnlyAt js (wipe σ vs) σ') (hj : ∀ j ∈ js, j ∈ vs) : wipe σ' vs = wipe σ vs := by
  refine List.ext_getElem? fun j => ?_
  by_cases m : j ∈ vs
  · rw [wipe_get m, wipe_get m, h.1, wipe_length]
  · rw [wipe_out m, h.2 j fun z => m (hj j z)]
/-- a clause's tests -/
structure STs (X : Cx) (F : Fx) (ifs : List Expr) (w : WT) : Prop where
  pt : PTs X ifs (liftT X.K F w)
  mono : Mono w
theorem pts_imp {X : Cx} {ifs : List Expr} {t t' : TT} (h : PTs X ifs t) (k : ∀ σ H Q, t' σ H Q → t σ H Q) : PTs X ifs t' := ⟨fun pins s σ H Q I q => h.run pins s σ H Q I (k σ H Q q)⟩
section
variable {X : Cx} {F : Fx} {tg a b c e elt iter : Expr} {ifs : List Expr} {es : List Expr} {pos spos p tpos : Pos} {wa wb we : WE} {wr wi : WA} {wt : WT} {js : List Nat} {g : PyData → Env' → Option Env'} {scope : Scope} {own : List (Str × Nat)}
def wYes : WT := fun _ Q => Q true
theorem sts_nil : STs X F [] wYes := by
  refine ⟨pts_imp pts_nil fun σ H Q q => ?_, fun ρ Q Q' k h => k _ h⟩
  obtain ⟨ρ, G, ow, R, q⟩ := q
  exact q H G R.refl
theorem sts_one (h : ST X F c wt) : STs X F [c] wt := ⟨pts_one h.pt, h.mono⟩
def lcD (vs : List Nat) (g : PyData → Env' → Option Env') (wt : WT) (we : WE) (ρ : Env') (Q : List PyData → Prop) : List PyData → List PyData → Prop
  | [], acc => Q acc
  | d :: ds, acc => ∃ ρ', g d (unAll vs ρ) = some ρ' ∧ wt ρ' fun b => if b = true then we ρ' fun y => acc.length < sizeLine ∧ lcD vs g wt we ρ Q ds (acc ++ [y]) else lcD vs g wt we ρ Q ds acc
theorem lcD_mono {vs : List Nat} {g : PyData → Env' → Option Env'} {wt : WT} {we : WE} (ht : Mono wt) (he : Mono we) {ρ : Env'} {Q Q' : List PyData → Prop} (k : ∀ d, Q d → Q' d) : ∀ ds acc, lcD vs g wt we ρ Q ds acc → lcD vs g wt we ρ Q' ds acc
  | [], acc, h => k _ h
  | d :: ds, acc, ⟨ρ', e, h⟩ => ⟨ρ', e, ht ρ' _ _ (fun b h => by
    cases b with
    | true => exact he ρ' _ _ (fun y h => ⟨h.1, lcD_mono ht he k ds _ h.2⟩) h
    | false => exact lcD_mono ht he k ds _ h) h⟩
def wLc (vs : List Nat) (wi : WA) (g : PyData → Env' → Option Env') (wt : WT) (we : WE) : WA := fun ρ Q => wi ρ fun items => lcD vs g wt we ρ Q items []
/-- the list at D that a comprehension fills -/
structure Fill (K : PySem.W.Frag) (dk : DK) (H1 G1 : Hp) (D : Addr) (acc : List PyData) (H G : Hp) : Prop where
  gr : Grow dk H1 G1 H G
  gD : G D = none
  at_ : ∃ vs, H D = some (.lst vs) ∧ DqAll K G vs acc
theorem Fill.start {K : PySem.W.Frag} {dk : DK} {H1 G1 : Hp} {D : Addr} (s : Same G1 H1) (d : DkOk dk H1 G1) (hD : H1 D = none) : Fill K dk H1 G1 D [] (upd H1 D (.lst [])) G1 where
  gr := Grow.newH s d hD
  gD := by
    cases e : G1 D with
    | none => rfl
    | some o => rw [s D o e] at hD; cases hD
  at_ := ⟨[], upd_same, .nil⟩
theorem Fill.grow {K : PySem.W.Frag} {dk : DK} {H1 G1 H G H' G' : Hp} {D : Addr} {acc : List PyData} (f : Fill K dk H1 G1 D acc H G) (d : DkOk dk H1 G1) (hD : H1 D = none) (g : Grow dk H G H' G') : Fill K dk H1 G1 D acc H' G' where
  gr := f.gr.trans g d
  gD := by
    obtain ⟨vs, h, _⟩ := f.at_
    cases e : G' D with
    | none => rfl
    | some o =>
      rcases g.nw D o e with z | z
      · rw [f.gD] at z; cases z
      · rw [h] at z; cases z
  at_ := by
    obtain ⟨vs, h, a⟩ := f.at_
    exact ⟨vs, g.hh _ _ (fun z => (d.there z).1 hD) h (fun _ e => by cases e), dpa_mono g.gg _ _ a⟩
theorem Fill.app {K : PySem.W.Frag} {dk : DK} {H1 G1 H G : Hp} {D : Addr} {acc : List PyData} {v : V} {y : PyData} (f : Fill K dk H1 G1 D acc H G) (d : DkOk dk H1 G1) (hD : H1 D = none) (hy : Dq K G v y) : ∃ vs, H D = some (.lst vs) ∧ vs.length = acc.length ∧ Fill K dk H1 G1 D (acc ++ [y]) (upd H D (.lst (vs ++ [v]))) G := by
  obtain ⟨vs, h, a⟩ := f.at_
  exact ⟨vs, h, dpa_len a, ⟨f.gr.put d hD f.gD (lst_plain h), f.gD, _, upd_same, dpa_app a (.cons hy .nil)⟩⟩
theorem lc_lift {vs : List Nat} (hi : Mono wi) (ht : Mono wt) (he : Mono we) (hj : ∀ j ∈ js, j ∈ vs) {σ : St} {H : Hp} {Q : VK} (q : liftL X.K F (wLc vs wi g wt we) σ H Q) :
    tLc (liftI X.K F wi) (tGd X.K F js g) (liftT X.K F wt) (liftE X.K F we) vs σ H Q := by
  obtain ⟨ρ, G, ow, R, q⟩ := q
  refine ⟨ρ, G, ow, R, hi ρ _ _ (fun items q J H1 G1 g1 wd D hD => ?_) q⟩
  have R1 := R.grow g1
  have s1 := R1.gr.sub
  have d1 := R1.dkok
  refine ⟨fun i m Hc => m = items.length - i ∧ i ≤ items.length ∧ ∃ G2 acc, Fill X.K F.dk H1 G1 D acc Hc G2 ∧ lcD vs g wt we ρ (fun ds => ∀ p vs H' G', Grow F.dk H G H' G' → H p = none → G' p = none → H' p = some (.lst vs) → DqAll X.K G' vs ds → Q (.ref p) H') (items.drop i) acc, ⟨_, rfl, Nat.zero_le _, G1, [], Fill.start s1 d1 hD, by rw [List.drop_zero]; exact q⟩, ?_⟩
  rintro i m H2 ⟨rfl, hi', G2, acc, f, q⟩
  by_cases hlt : i < items.length
  · refine .inr ⟨wd.goes i H2 G2 hlt f.gr.gg f.gr.sub, fun H' => i + 1 ≤ items.length ∧ ∃ G2 acc, Fill X.K F.dk H1 G1 D acc H' G2 ∧ lcD vs g wt we ρ _ (items.drop (i + 1)) acc, fun H' ⟨h1, h2⟩ => ⟨items.length - (i + 1), by omega, rfl, h1, h2⟩, fun x H' y => ?_⟩
    obtain ⟨G3, d, g3, hd, dd⟩ := wd.yields i H2 G2 x H' hlt f.gr.gg f.gr.sub f.gr.dk y
    rw [List.drop_eq_getElem_cons hlt] at q
    have hd' : items[i] = d := by rw [List.getElem?_eq_getElem hlt] at hd; cases hd; rfl
    rw [hd'] at q
    obtain ⟨ρ', eg, q⟩ := q
    have f3 := f.grow d1 hD g3
    obtain ⟨ow', R3⟩ := rep_wipe (R1.grow f3.gr) vs
    refine ⟨d, _, ρ', G3, ow', R3, dd, eg, fun σ4 ow4 R4 o4 => ⟨wipe_only o4 hj, ρ', G3, ow4, R4, ht ρ' _ _ (fun b q H5 G5 g5 => ?_) q⟩⟩
    have f5 := f3.grow d1 hD g5
    cases b with
    | true =>
      refine ⟨ρ', G5, ow4, R4.grow g5, he ρ' _ _ (fun y q v H6 G6 g6 d6 => ?_) q⟩
      obtain ⟨us, hu, hl, f6⟩ := (f5.grow d1 hD g6).app d1 hD d6
      exact ⟨us, hu, by rw [hl]; exact q.1, hlt, G6, _, f6, q.2⟩
    | false => exact ⟨hlt, G5, acc, f5, q⟩
  · have e : i = items.length := by omega
    subst e
    rw [List.drop_length] at q
    obtain ⟨us, hu, a⟩ := f.at_
    exact .inl ⟨wd.stops H2 G2 f.gr.gg f.gr.sub, q D us H2 G2 (g1.trans f.gr R.dkok) (g1.th R.dkok hD) f.gD hu a⟩
variable {y : Str} {py : Pos}
theorem wLc_mono {vs : List Nat} (hi : Mono wi) (ht : Mono wt) (he : Mono we) : Mono (wLc vs wi g wt we) := fun ρ Q Q' k q => hi ρ _ _ (fun items q => lcD_mono ht he k items [] q) q
/-- [elt for tg in iter if ..] : a fresh list -/
theorem sl_lc (hc : X.calm = true) (hN : X.N.Nodup) (hi : SI X F tg iter wi) (ok : BlkOk X.N X.env.scope scope own)
    (hg : ∀ (s : Shared) (H : Hp) (C : Addr) (cl : List (Str × Addr)) (fp : List Addr), SG (X.blk s H scope (compEnvC scope cl C X.env) fp) F tg js g)
    (ht : ∀ (s : Shared) (H : Hp) (C : Addr) (cl : List (Str × Addr)) (fp : List Addr), STs (X.blk s H scope (compEnvC scope cl C X.env) fp) F ifs wt)
    (he : ∀ (s : Shared) (H : Hp) (C : Addr) (cl : List (Str × Addr)) (fp : List Addr), SE (X.blk s H scope (compEnvC scope cl C X.env) fp) F elt we)
    (hj : ∀ j ∈ js, j ∈ own.map (·.2)) (hs : ∀ x, foldedSetIterable iter X.env x = pure x := by intro _; rfl) :
    SEL X F (.ListComp elt [⟨tg, iter, ifs, 0⟩] scope pos) (wLc (own.map (·.2)) wi g wt we) :=
  ⟨pe_imp (pe_lc (g := tGd X.K F js g) (tt := liftT X.K F wt) (te := liftE X.K F we) hc hN hi.pi ok (fun s H C cl fp => hg s H C cl fp) (fun s H C cl fp => (ht s H C cl fp).pt) (fun s H C cl fp => (he s H C cl fp).pe) hs) fun _ _ _ q => lc_lift hi.mono (ht X.s_0 X.H_0 0 [] []).mono (he X.s_0 X.H_0 0 [] []).mono hj q, wLc_mono hi.mono (ht X.s_0 X.H_0 0 [] []).mono (he X.s_0 X.H_0 0 [] []).mono⟩
theorem liftV_L {w : WA} (hm : Mono w) {σ : St} {H : Hp} {Q : VK} (q : liftV X.K F (vL w) σ H Q) : liftL X.K F w σ H Q := by
  obtain ⟨ρ, G, ow, R, q⟩ := q
  refine ⟨ρ, G, ow, R, hm ρ _ _ (fun xs q p vs H1 G1 g1 h0 g0 h1 d1 => q (.ref p) H1 G1 [p] g1 ⟨p, vs, rfl, rfl, h1, d1⟩ fun p' hp' => ?_) q⟩
  obtain rfl : p' = p := by simpa using hp'
  exact ⟨h0, g0, by rw [h1]; simp⟩
theorem liftV_D {w : WA} (hm : Mono w) {σ : St} {H : Hp} {Q : VK} (q : liftV X.K F (vD (wAsL w)) σ H Q) : liftL X.K F w σ H Q := by
  obtain ⟨ρ, G, ow, R, q⟩ := q
  refine ⟨ρ, G, ow, R, hm ρ _ _ (fun xs q p vs H1 G1 g1 h0 g0 h1 d1 => ?_) q⟩
  have s : Same G1 (upd G1 p (.lst vs)) := fun b o e => by rw [upd_ne (ne_of_none e g0)]; exact e
  exact q (.ref p) H1 _ [] (g1.show R.dkok h0 h1) ⟨rfl, .lst upd_same (dpa_mono s _ _ d1)⟩ fun p' hp' => absurd hp' (by simp)
/-- y = [..] on one line: kept as the def's own list (vL) or read as data (vD) -/
theorem ss_setLc {i : Nat} {wv : WV} (hc : X.calm = true) (hN : X.N.Nodup) (hy : X.N[i]? = some y) (hyl : X.env.scope.names.lookup y = some .local)
    (hsw : swapsWith (.ListComp elt [⟨tg, iter, ifs, 0⟩] scope pos) (some (.Name y py)) spos.line X.env = pure true) (hi : SI X F tg iter wi) (ok : BlkOk X.N X.env.scope scope own)
    (hg : ∀ (s : Shared) (H : Hp) (C : Addr) (cl : List (Str × Addr)) (fp : List Addr), SG (X.blk s H scope (compEnvC scope cl C X.env) fp) F tg js g)
    (ht : ∀ (s : Shared) (H : Hp) (C : Addr) (cl : List (Str × Addr)) (fp : List Addr), STs (X.blk s H scope (compEnvC scope cl C X.env) fp) F ifs wt)
    (he : ∀ (s : Shared) (H : Hp) (C : Addr) (cl : List (Str × Addr)) (fp : List Addr), SE (X.blk s H scope (compEnvC scope cl C X.env) fp) F elt we)
    (hj : ∀ j ∈ js, j ∈ own.map (·.2))
    (hv : wv = vL (wLc (own.map (·.2)) wi g wt we) ∨ wv = vD (wAsL (wLc (own.map (·.2)) wi g wt we))) (hs : ∀ x, foldedSetIterable iter X.env x = pure x := by intro _; rfl) :
    SS X F (.Assign [.Name y py] (.ListComp elt [⟨tg, iter, ifs, 0⟩] scope pos) spos) (wAsg i wv) := by
  have mt := (ht X.s_0 X.H_0 0 [] []).mono
  have me := (he X.s_0 X.H_0 0 [] []).mono
  have mL := wLc_mono (vs := own.map (·.2)) (g := g) hi.mono mt me
  have mv : Mono wv := by
    rcases hv with rfl | rfl
    · exact fun ρ Q Q' k q => mL ρ _ _ (fun d q => k _ q) q
    · exact fun ρ Q Q' k q => mL ρ _ _ (fun d q => k _ q) q
  refine ⟨ps_imp (ps_setLc (g := tGd X.K F js g) (tt := liftT X.K F wt) (te := liftE X.K F we) hc hN hy hyl hsw hi.pi ok (fun s H C cl fp => hg s H C cl fp) (fun s H C cl fp => (ht s H C cl fp).pt) (fun s H C cl fp => (he s H C cl fp).pe) hs) fun D σ H q => ?_, asg_mono mv⟩
  have q2 := asg_lift mv q
  show tLc _ _ _ _ _ σ H _
  rcases hv with rfl | rfl
  · exact lc_lift hi.mono mt me hj (liftV_L mL q2)
  · exact lc_lift hi.mono mt me hj (liftV_D mL q2)

/-! ### two clauses -/
def noOwn (ρ : Env') : Env' := ρ.map fun s => match s with
  | .d x => .d x
  | .dk => .dk
  | _ => .un
theorem rep_again {K : PySem.W.Frag} {ρ : Env'} {σ : St} {H G Hc Gc : Hp} {ow : Nat → List Addr} (R : Rep K F ρ σ H G ow) (s : Same G Gc) (g : Grow F.dk F.H0 F.G0 Hc Gc) : Rep K F (noOwn ρ) σ Hc Gc fun _ => [] where
  s0 := R.s0
  d0 := R.d0
  gr := g
  len := by rw [R.len]; simp [noOwn]
  sl := fun i t e => by
    simp only [noOwn, List.getElem?_map, Option.map_eq_some_iff] at e
    obtain ⟨t0, e0, e⟩ := e
    have q := R.sl i t0 e0
    cases t0 with
    | d x => subst e; obtain ⟨_, v, h1, h2⟩ := q; exact ⟨rfl, v, h1, dp_mono s _ _ h2⟩
    | dk => subst e; exact ⟨rfl, q.2⟩
    | un => subst e; exact rfl
    | l _ => subst e; exact rfl
    | k _ => subst e; exact rfl
    | t _ => subst e; exact rfl
  fr := fun i p h => absurd h (by simp)
  dj := fun i j p h => absurd h (by simp)
variable {tg1 iter1 : Expr} {ifs1 : List Expr} {wi1 : WA} {wt1 : WT} {js1 vs1 : List Nat} {g1 : PyData → Env' → Option Env'}
/-- the inner clause over its items, then the rest with what has come -/
def inD (vs1 : List Nat) (g1 : PyData → Env' → Option Env') (wt1 : WT) (we : WE) (ρ : Env') (N : List PyData → Prop) : List PyData → List PyData → Prop
  | [], acc => N acc
  | d :: ds, acc => ∃ ρ', g1 d (unAll vs1 ρ) = some ρ' ∧ wt1 ρ' fun b => if b = true then we ρ' fun y => acc.length < sizeLine ∧ inD vs1 g1 wt1 we ρ N ds (acc ++ [y]) else inD vs1 g1 wt1 we ρ N ds acc
theorem inD_mono {we : WE} (ht : Mono wt1) (he : Mono we) {ρ : Env'} {Q Q' : List PyData → Prop} (k : ∀ d, Q d → Q' d) : ∀ ds acc, inD vs1 g1 wt1 we ρ Q ds acc → inD vs1 g1 wt1 we ρ Q' ds acc
  | [], acc, h => k _ h
  | d :: ds, acc, ⟨ρ', e, h⟩ => ⟨ρ', e, ht ρ' _ _ (fun b h => by
    cases b with
    | true => exact he ρ' _ _ (fun y h => ⟨h.1, inD_mono ht he k ds _ h.2⟩) h
    | false => exact inD_mono ht he k ds _ h) h⟩
def lc2D (vs vs1 : List Nat) (g : PyData → Env' → Option Env') (wt : WT) (wi1 : WA) (g1 : PyData → Env' → Option Env') (wt1 : WT) (we : WE) (ρ : Env') (Q : List PyData → Prop) : List PyData → List PyData → Prop
  | [], acc => Q acc
  | d :: ds, acc => ∃ ρ', g d (unAll vs ρ) = some ρ' ∧ wt ρ' fun b => if b = true then wi1 ρ' fun items => inD vs1 g1 wt1 we (noOwn ρ') (lc2D vs vs1 g wt wi1 g1 wt1 we ρ Q ds) items acc else lc2D vs vs1 g wt wi1 g1 wt1 we ρ Q ds acc
theorem lc2D_mono {vs : List Nat} (ht : Mono wt) (hi1 : Mono wi1) (ht1 : Mono wt1) (he : Mono we) {ρ : Env'} {Q Q' : List PyData → Prop} (k : ∀ d, Q d → Q' d) : ∀ ds acc, lc2D vs vs1 g wt wi1 g1 wt1 we ρ Q ds acc → lc2D vs vs1 g wt wi1 g1 wt1 we ρ Q' ds acc
  | [], acc, h => k _ h
  | d :: ds, acc, ⟨ρ', e, h⟩ => ⟨ρ', e, ht ρ' _ _ (fun b h => by
    cases b with
    | true => exact hi1 ρ' _ _ (fun items h => inD_mono ht1 he (fun acc h => lc2D_mono ht hi1 ht1 he k ds acc h) items _ h) h
    | false => exact lc2D_mono ht hi1 ht1 he k ds _ h) h⟩
def wLc2 (vs vs1 : List Nat) (wi : WA) (g : PyData → Env' → Option Env') (wt : WT) (wi1 : WA) (g1 : PyData → Env' → Option Env') (wt1 : WT) (we : WE) : WA := fun ρ Q => wi ρ fun items => lc2D vs vs1 g wt wi1 g1 wt1 we ρ Q items []
theorem wLc2_mono {vs : List Nat} (hi : Mono wi) (ht : Mono wt) (hi1 : Mono wi1) (ht1 : Mono wt1) (he : Mono we) : Mono (wLc2 vs vs1 wi g wt wi1 g1 wt1 we) := fun ρ Q Q' k q => hi ρ _ _ (fun items q => lc2D_mono ht hi1 ht1 he k items [] q) q
theorem lc2_lift {vs : List Nat} (hi : Mono wi) (ht : Mono wt) (hi1 : Mono wi1) (ht1 : Mono wt1) (he : Mono we) (hj : ∀ j ∈ js, j ∈ vs) (hj1 : ∀ j ∈ js1, j ∈ vs1) {σ : St} {H : Hp} {Q : VK} (q : liftL X.K F (wLc2 vs vs1 wi g wt wi1 g1 wt1 we) σ H Q) :
    tLc2 (liftI X.K F wi) (tGd X.K F js g) (liftT X.K F wt) (liftI X.K F wi1) (tGd X.K F js1 g1) (liftT X.K F wt1) (liftE X.K F we) vs vs1 σ H Q := by
  obtain ⟨ρ, G, ow, R, q⟩ := q
  refine ⟨ρ, G, ow, R, hi ρ _ _ (fun items q J H1 G1 g1' wd D hD => ?_) q⟩
  have R1 := R.grow g1'
  have s1 := R1.gr.sub
  have d1 := R1.dkok
  refine ⟨fun i m Hc => m = items.length - i ∧ i ≤ items.length ∧ ∃ G2 acc, Fill X.K F.dk H1 G1 D acc Hc G2 ∧ lc2D vs vs1 g wt wi1 g1 wt1 we ρ (fun ds => ∀ p vs H' G', Grow F.dk H G H' G' → H p = none → G' p = none → H' p = some (.lst vs) → DqAll X.K G' vs ds → Q (.ref p) H') (items.drop i) acc, ⟨_, rfl, Nat.zero_le _, G1, [], Fill.start s1 d1 hD, by rw [List.drop_zero]; exact q⟩, ?_⟩
  rintro i m H2 ⟨rfl, hi', G2, acc, f, q⟩
  by_cases hlt : i < items.length
  · refine .inr ⟨wd.goes i H2 G2 hlt f.gr.gg f.gr.sub, fun H' => i + 1 ≤ items.length ∧ ∃ G2 acc, Fill X.K F.dk H1 G1 D acc H' G2 ∧ lc2D vs vs1 g wt wi1 g1 wt1 we ρ _ (items.drop (i + 1)) acc, fun H' ⟨h1, h2⟩ => ⟨items.length - (i + 1), by omega, rfl, h1, h2⟩, fun x H' y => ?_⟩
    obtain ⟨G3, d, g3, hd, dd⟩ := wd.yields i H2 G2 x H' hlt f.gr.gg f.gr.sub f.gr.dk y
    rw [List.drop_eq_getElem_cons hlt] at q
    have hd' : items[i] = d := by rw [List.getElem?_eq_getElem hlt] at hd; cases hd; rfl
    rw [hd'] at q
    obtain ⟨ρ', eg, q⟩ := q
    have f3 := f.grow d1 hD g3
    obtain ⟨ow', R3⟩ := rep_wipe (R1.grow f3.gr) vs
    refine ⟨d, _, ρ', G3, ow', R3, dd, eg, fun σ4 ow4 R4 o4 => ⟨wipe_only o4 hj, ρ', G3, ow4, R4, ht ρ' _ _ (fun b q H5 G5 g5 => ?_) q⟩⟩
    have f5 := f3.grow d1 hD g5
    have R5 := R4.grow g5
    cases b with
    | true =>
      refine ⟨ρ', G5, ow4, R5, hi1 ρ' _ _ (fun items1 q J1 H6 G6 g6 wd1 => ?_) q⟩
      have f6 := f5.grow d1 hD g6
      have R6 := R5.grow g6
      refine ⟨fun j k Hc => k = items1.length - j ∧ j ≤ items1.length ∧ ∃ G7 acc, Fill X.K F.dk H1 G1 D acc Hc G7 ∧ Same G6 G7 ∧ inD vs1 g1 wt1 we (noOwn ρ') (lc2D vs vs1 g wt wi1 g1 wt1 we ρ (fun ds => ∀ p vs H' G', Grow F.dk H G H' G' → H p = none → G' p = none → H' p = some (.lst vs) → DqAll X.K G' vs ds → Q (.ref p) H') (items.drop (i + 1))) (items1.drop j) acc, ⟨_, rfl, Nat.zero_le _, G6, acc, f6, fun _ _ h => h, by rw [List.drop_zero]; exact q⟩, ?_⟩
      rintro j k H7 ⟨rfl, hj', G7, acc, f7, s7, q⟩
      by_cases hlt1 : j < items1.length
      · refine .inr ⟨wd1.goes j H7 G7 hlt1 s7 f7.gr.sub, fun H' => j + 1 ≤ items1.length ∧ ∃ G8 acc, Fill X.K F.dk H1 G1 D acc H' G8 ∧ Same G6 G8 ∧ inD vs1 g1 wt1 we (noOwn ρ') (lc2D vs vs1 g wt wi1 g1 wt1 we ρ (fun ds => ∀ p vs H' G', Grow F.dk H G H' G' → H p = none → G' p = none → H' p = some (.lst vs) → DqAll X.K G' vs ds → Q (.ref p) H') (items.drop (i + 1))) (items1.drop (j + 1)) acc, fun H' ⟨h1, h2⟩ => ⟨items1.length - (j + 1), by omega, rfl, h1, h2⟩, fun x1 H8 y1 => ?_⟩
        obtain ⟨G8, d8, g8, hd8, dd8⟩ := wd1.yields j H7 G7 x1 H8 hlt1 s7 f7.gr.sub f7.gr.dk y1
        rw [List.drop_eq_getElem_cons hlt1] at q
        have hd8' : items1[j] = d8 := by rw [List.getElem?_eq_getElem hlt1] at hd8; cases hd8; rfl
        rw [hd8'] at q
        obtain ⟨ρ8, eg8, q⟩ := q
        have f8 := f7.grow d1 hD g8
        have s8 : Same G6 G8 := fun b o z => g8.gg b o (s7 b o z)
        obtain ⟨ow8, R8⟩ := rep_wipe (rep_again R6 s8 (R1.gr.trans f8.gr R1.d0)) vs1
        refine ⟨d8, _, ρ8, G8, ow8, R8, dd8, eg8, fun σ9 ow9 R9 o9 => ⟨wipe_only o9 hj1, ρ8, G8, ow9, R9, ht1 ρ8 _ _ (fun b q Ha Ga ga => ?_) q⟩⟩
        have fa := f8.grow d1 hD ga
        have sa : Same G6 Ga := fun b o z => ga.gg b o (s8 b o z)
        cases b with
        | true =>
          refine ⟨ρ8, Ga, ow9, R9.grow ga, he ρ8 _ _ (fun y q v Hb Gb gb db => ?_) q⟩
          obtain ⟨us, hu, hl, fb⟩ := (fa.grow d1 hD gb).app d1 hD db
          exact ⟨us, hu, by rw [hl]; exact q.1, hlt1, Gb, _, fb, fun b o z => gb.gg b o (sa b o z), q.2⟩
        | false => exact ⟨hlt1, Ga, acc, fa, sa, q⟩
      · have e : j = items1.length := by omega
        subst e
        rw [List.drop_length] at q
        exact .inl ⟨wd1.stops H7 G7 s7 f7.gr.sub, hlt, G7, acc, f7, q⟩
    | false => exact ⟨hlt, G5, acc, f5, q⟩
  · have e : i = items.length := by omega
    subst e
    rw [List.drop_length] at q
    obtain ⟨us, hu, a⟩ := f.at_
    exact .inl ⟨wd.stops H2 G2 f.gr.gg f.gr.sub, q D us H2 G2 (g1'.trans f.gr R.dkok) (g1'.th R.dkok hD) f.gD hu a⟩
/-- y = [elt for tg in iter for tg1 in iter1] on one line -/
theorem ss_setLc2 {i : Nat} {wv : WV} (hc : X.calm = true) (hN : X.N.Nodup) (hy : X.N[i]? = some y) (hyl : X.env.scope.names.lookup y = some .local)
    (hsw : swapsWith (.ListComp elt [⟨tg, iter, ifs, 0⟩, ⟨tg1, iter1, ifs1, 0⟩] scope pos) (some (.Name y py)) spos.line X.env = pure true) (hi : SI X F tg iter wi) (ok : BlkOk X.N X.env.scope scope own) (hvs : ∀ i ∈ vs1, i ∈ own.map (·.2))
    (hg : ∀ (s : Shared) (H : Hp) (C : Addr) (cl : List (Str × Addr)) (fp : List Addr), SG (X.blk s H scope (compEnvC scope cl C X.env) fp) F tg js g)
    (ht : ∀ (s : Shared) (H : Hp) (C : Addr) (cl : List (Str × Addr)) (fp : List Addr), STs (X.blk s H scope (compEnvC scope cl C X.env) fp) F ifs wt)
    (hi1 : ∀ (s : Shared) (H : Hp) (C : Addr) (cl : List (Str × Addr)) (fp : List Addr), SI (X.blk s H scope (compEnvC scope cl C X.env) fp) F tg1 iter1 wi1)
    (hg1 : ∀ (s : Shared) (H : Hp) (C : Addr) (cl : List (Str × Addr)) (fp : List Addr), SG (X.blk s H scope (compEnvC scope cl C X.env) fp) F tg1 js1 g1)
    (ht1 : ∀ (s : Shared) (H : Hp) (C : Addr) (cl : List (Str × Addr)) (fp : List Addr), STs (X.blk s H scope (compEnvC scope cl C X.env) fp) F ifs1 wt1)
    (he : ∀ (s : Shared) (H : Hp) (C : Addr) (cl : List (Str × Addr)) (fp : List Addr), SE (X.blk s H scope (compEnvC scope cl C X.env) fp) F elt we)
    (hj : ∀ j ∈ js, j ∈ own.map (·.2)) (hj1 : ∀ j ∈ js1, j ∈ vs1)
    (hv : wv = vL (wLc2 (own.map (·.2)) vs1 wi g wt wi1 g1 wt1 we) ∨ wv = vD (wAsL (wLc2 (own.map (·.2)) vs1 wi g wt wi1 g1 wt1 we))) (hs : ∀ x, foldedSetIterable iter X.env x = pure x := by intro _; rfl) (hs1 : ∀ env x, foldedSetIterable iter1 env x = pure x := by intro _ _; rfl) :
    SS X F (.Assign [.Name y py] (.ListComp elt [⟨tg, iter, ifs, 0⟩, ⟨tg1, iter1, ifs1, 0⟩] scope pos) spos) (wAsg i wv) := by
  have mt := (ht X.s_0 X.H_0 0 [] []).mono
  have me := (he X.s_0 X.H_0 0 [] []).mono
  have mi1 := (hi1 X.s_0 X.H_0 0 [] []).mono
  have mt1 := (ht1 X.s_0 X.H_0 0 [] []).mono
  have mL := wLc2_mono (vs := own.map (·.2)) (vs1 := vs1) (g := g) (g1 := g1) hi.mono mt mi1 mt1 me
  have mv : Mono wv := by
    rcases hv with rfl | rfl
    · exact fun ρ Q Q' k q => mL ρ _ _ (fun d q => k _ q) q
    · exact fun ρ Q Q' k q => mL ρ _ _ (fun d q => k _ q) q
  refine ⟨ps_imp (ps_setLc2 (g := tGd X.K F js g) (tt := liftT X.K F wt) (te := liftE X.K F we) (wi1 := liftI X.K F wi1) (g1 := tGd X.K F js1 g1) (tt1 := liftT X.K F wt1) hc hN hy hyl hsw hi.pi ok hvs (fun s H C cl fp => hg s H C cl fp) (fun s H C cl fp => (ht s H C cl fp).pt)
    (fun s H C cl fp => (hi1 s H C cl fp).pi) (fun s H C cl fp => hg1 s H C cl fp) (fun s H C cl fp => (ht1 s H C cl fp).pt) (fun s H C cl fp => (he s H C cl fp).pe) hs hs1) fun D σ H q => ?_, asg_mono mv⟩
  have q2 := asg_lift mv q
  show tLc2 _ _ _ _ _ _ _ _ _ σ H _
  rcases hv with rfl | rfl
  · exact lc2_lift hi.mono mt mi1 mt1 me hj hj1 (liftV_L mL q2)
  · exact lc2_lift hi.mono mt mi1 mt1 me hj hj1 (liftV_D mL q2)
end
end DL
set_option maxRecDepth 100000
set_option maxHeartbeats 2000000
/-! # The data layer: calls of the text's own defs, and what such a def promises -/
namespace DL
open PySem PySem.Spec L2

/-- an argument: data, or the deck -/
def ArgV (K : PySem.W.Frag) (dk : DK) (G : Hp) (v : V) : Sl → Prop
  | .d x => Dq K G v x
  | .dk => ∃ k, dk = some k ∧ v = .ref k.a
  | _ => False
def ArgsV (K : PySem.W.Frag) (dk : DK) (G : Hp) : List V → List Sl → Prop := Paired (ArgV K dk G)
theorem ArgV.mono {K : PySem.W.Frag} {dk : DK} {G G' : Hp} (e : Same G G') {v : V} : ∀ {s : Sl}, ArgV K dk G v s → ArgV K dk G' v s
  | .d _, h => dp_mono e _ _ h
  | .dk, h => h
  | .un, h => h.elim
  | .l _, h => h.elim
  | .k _, h => h.elim
  | .t _, h => h.elim
theorem ArgsV.mono {K : PySem.W.Frag} {dk : DK} {G G' : Hp} (e : Same G G') : ∀ {vs : List V} {ss : List Sl}, ArgsV K dk G vs ss → ArgsV K dk G' vs ss
  | _, _, .nil => .nil
  | _, _, .cons h a => .cons (h.mono e) (ArgsV.mono e a)
abbrev WP := Env' → (List Sl → Prop) → Prop
def liftP (K : PySem.W.Frag) (F : Fx) (w : WP) : TA := fun σ H Q => ∃ ρ G ow, Rep K F ρ σ H G ow ∧ w ρ fun ss => ∀ vs H' G', Grow F.dk H G H' G' → ArgsV K F.dk G' vs ss → Q vs H'
structure SP (X : Cx) (F : Fx) (es : List Expr) (w : WP) : Prop where
  pa : PA X es (liftP X.K F w)
  mono : Mono w
/-- the keywords' values -/
structure SK (X : Cx) (F : Fx) (kws : List Keyword) (w : WP) : Prop where
  pk : PK X kws (liftP X.K F w)
  mono : Mono w
theorem pk_imp {X : Cx} {kws : List Keyword} {t t' : TA} (h : PK X kws t) (k : ∀ σ H Q, t' σ H Q → t σ H Q) : PK X kws t' := ⟨fun pos pins s σ H Q I q => h.run pos pins s σ H Q I (k σ H Q q)⟩
def pNil : WP := fun _ Q => Q []
def pD (wa : WE) (wr : WP) : WP := fun ρ Q => wa ρ fun x => wr ρ fun ss => Q (.d x :: ss)
def pK (i : Nat) (wr : WP) : WP := fun ρ Q => ρ[i]? = some .dk ∧ wr ρ fun ss => Q (.dk :: ss)
section
variable {X : Cx} {F : Fx} {a e : Expr} {es : List Expr} {pos p : Pos} {wa : WE} {wr wk : WP}
theorem sp_nil : SP X F [] pNil := by
  refine ⟨pa_imp pa_nil fun σ H Q q => ?_, fun ρ Q Q' k q => k _ q⟩
  obtain ⟨ρ, G, ow, R, q⟩ := q
  exact q [] H G R.refl .nil
theorem consD {σ : St} {H : Hp} {Q : List V → Hp → Prop} (ha : Mono wa) (hr : Mono wr) (q : liftP X.K F (pD wa wr) σ H Q) : tCons (liftE X.K F wa) (liftP X.K F wr) σ H Q := by
  obtain ⟨ρ, G, ow, R, q⟩ := q
  refine ⟨ρ, G, ow, R, ha ρ _ _ (fun x q v H1 G1 g1 d1 => ?_) q⟩
  exact ⟨ρ, G1, ow, R.grow g1, hr ρ _ _ (fun xs q vs H2 G2 g2 d2 => q (v :: vs) H2 G2 (g1.trans g2 R.dkok) (.cons (dp_mono g2.gg _ _ d1) d2)) q⟩
theorem consK {i : Nat} {σ : St} {H : Hp} {Q : List V → Hp → Prop} (hr : Mono wr) (q : liftP X.K F (pK i wr) σ H Q) : tCons (tVar i) (liftP X.K F wr) σ H Q := by
  obtain ⟨ρ, G, ow, R, hd, q⟩ := q
  obtain ⟨_, k, hk, hv⟩ := R.sl i _ hd
  refine ⟨_, hv, ρ, G, ow, R, hr ρ _ _ (fun xs q vs H2 G2 g2 d2 => q (.ref k.a :: vs) H2 G2 g2 (.cons ⟨k, hk, rfl⟩ d2)) q⟩
theorem pD_mono (ha : Mono wa) (hr : Mono wr) : Mono (pD wa wr) := fun ρ Q Q' k q => ha ρ _ _ (fun x q => hr ρ _ _ (fun xs q => k _ q) q) q
theorem pK_mono {i : Nat} (hr : Mono wr) : Mono (pK i wr) := fun ρ Q Q' k q => ⟨q.1, hr ρ _ _ (fun xs q => k _ q) q.2⟩
theorem sp_d (ha : SE X F e wa) (hr : SP X F es wr) (hs : starEach (e :: es) X.env = (false, eval e X.env) :: starEach es X.env := by rfl) : SP X F (e :: es) (pD wa wr) :=
  ⟨pa_imp (pa_cons ha.pe hr.pa hs) fun _ _ _ q => consD ha.mono hr.mono q, pD_mono ha.mono hr.mono⟩
theorem sp_k {i : Nat} (ha : PE X e (tVar i)) (hr : SP X F es wr) (hs : starEach (e :: es) X.env = (false, eval e X.env) :: starEach es X.env := by rfl) : SP X F (e :: es) (pK i wr) :=
  ⟨pa_imp (pa_cons ha hr.pa hs) fun _ _ _ q => consK hr.mono q, pK_mono hr.mono⟩
variable {nm : Option Str} {kpos : Pos} {kws : List Keyword}
theorem sk_nil : SK X F [] pNil := by
  refine ⟨pk_imp pk_nil fun σ H Q q => ?_, fun ρ Q Q' k q => k _ q⟩
  obtain ⟨ρ, G, ow, R, q⟩ := q
  exact q [] H G R.refl .nil
theorem sk_d (ha : SE X F e wa) (hr : SK X F kws wr) : SK X F (⟨nm, e, kpos⟩ :: kws) (pD wa wr) :=
  ⟨pk_imp (pk_cons ha.pe hr.pk) fun _ _ _ q => consD ha.mono hr.mono q, pD_mono ha.mono hr.mono⟩

/-! ### promises -/
/-- what a def does with its arguments: what comes back; the class and the datum of what is raised -/
abbrev WF := List Sl → (PyData → Prop) → (Addr → PyData → Prop) → Prop
def MonoF (w : WF) : Prop := ∀ ss Q Q' E E', (∀ d, Q d → Q' d) → (∀ C d, E C d → E' C d) → w ss Q E → w ss Q' E'
def qD (K : PySem.W.Frag) (dk : DK) (H G : Hp) (Q : VK) : PyData → Prop := fun r => ∀ v H' G', Grow dk H G H' G' → Dq K G' v r → Q v H'
def eD (K : PySem.W.Frag) (dk : DK) (H G : Hp) (E : XK) : Addr → PyData → Prop := fun C r => ∀ v d H' G', Grow dk H G H' G' → H' d = some (.xd [(("thing" : Str), v)]) → Dq K G' v r → E (.ref C) (some d) H'
def spD (K : PySem.W.Frag) (n : Nat) (w : WF) : Sp := fun vs H Q E => ∃ dk G ss, Same G H ∧ DkOk dk H G ∧ ArgsV K dk G vs ss ∧ ss.length = n ∧ w ss (qD K dk H G Q) (eD K dk H G E)
theorem paired_len {α β : Type} {R : α → β → Prop} : ∀ {xs : List α} {ys : List β}, Paired R xs ys → xs.length = ys.length
  | _, _, .nil => rfl
  | _, _, .cons _ a => congrArg (· + 1) (paired_len a)
theorem spD_len {K : PySem.W.Frag} {n : Nat} {w : WF} {vs : List V} {H : Hp} {Q : VK} {E : XK} (h : spD K n w vs H Q E) : vs.length = n := by
  obtain ⟨dk, G, ss, _, _, a, l, _⟩ := h
  rw [← l]; exact paired_len a

/-! ### the call -/
variable {CX : CXT} {k n : Nat} {f : Addr} {fd : FuncData} {ps ks : List Str} {w : WF} {x : Str} {E : XK}
/-- what the body wishes of what is let out, told at a heap of the body -/
def exD (K : PySem.W.Frag) (F : Fx) (E : XK) : Addr → PyData → Prop := eD K F.dk F.H0 F.G0 E
theorem eD_back {K : PySem.W.Frag} {F : Fx} {ρ : Env'} {σ : St} {H G : Hp} {ow : Nat → List Addr} (R : Rep K F ρ σ H G ow) {C : Addr} {d : PyData} (h : exD K F E C d) : eD K F.dk H G E C d := fun v d' H' G' g h1 h2 => h v d' H' G' (R.gr.trans g R.d0) h1 h2
def wCall (w : WF) (wr : WP) (Ex : Addr → PyData → Prop) : WE := fun ρ Q => wr ρ fun ss => w ss Q Ex
theorem wCall_mono (hr : Mono wr) (hw : MonoF w) {Ex : Addr → PyData → Prop} : Mono (wCall w wr Ex) := fun ρ Q Q' k q => hr ρ _ _ (fun ss q => hw ss _ _ _ _ k (fun _ _ h => h) q) q
def wLen (n : Nat) (wr : WP) : WP := fun ρ Q => wr ρ fun ss => ss.length = n ∧ Q ss
theorem call_lift (hr : Mono wr) (hw : MonoF w) {σ : St} {H : Hp} {Q : VK} (q : liftE X.K F (wCall w (wLen n wr) (exD X.K F E)) σ H Q) : tCall (spD X.K n w) [] E (liftP X.K F wr) σ H Q := by
  obtain ⟨ρ, G, ow, R, q⟩ := q
  refine ⟨ρ, G, ow, R, hr ρ _ _ (fun ss q vs H1 G1 g1 a1 => ?_) q⟩
  obtain ⟨l, q⟩ := q
  have R1 := R.grow g1
  rw [List.append_nil]
  exact ⟨F.dk, G1, ss, R1.gr.sub, R1.dkok, a1, l, hw ss _ _ _ _ (fun d h v H2 G2 g2 d2 => h v H2 G2 (g1.trans g2 R.dkok) d2) (fun C d h => eD_back R1 h) q⟩
theorem wLen_mono (hr : Mono wr) : Mono (wLen n wr) := fun ρ Q Q' k q => hr ρ _ _ (fun ss q => ⟨q.1, k _ q.2⟩) q
theorem se_call (hw : MonoF w) (Fo : FnOk X.prog X.w X.K X.mg X.base CX k f fd ps (spD X.K n w)) (hr : Room k X.A) (hg : Gl X x) (hm : X.mg x = some (.ref f)) (hk : PySem.W.keepIn X.K (.ref f) = true) (hb : Binds X.K fd ps []) (hx : Passes CX X E) (ha : SP X F (e :: es) wr)
    (hdb : (x == ("__debug__" : Str)) = false := by decide) (he : starEach (e :: es) X.env = (false, eval e X.env) :: starEach es X.env := by rfl) (hpl : (backTo pos (starEach es X.env)).any (·.1) = false := by rfl) :
    SE X F (.Call (.Name x p) (e :: es) [] pos) (wCall w (wLen n wr) (exD X.K F E)) :=
  ⟨pe_imp (pe_call Fo hr hg hm hk hb .nil hx ha.pa hdb he hpl) fun _ _ _ q => call_lift ha.mono hw q, wCall_mono (wLen_mono ha.mono) hw⟩
/-- all arguments by keyword: g puts them in the parameters' order -/
def wPerm (g : List Sl → List Sl) (wr : WP) : WP := fun ρ Q => wr ρ fun ss => Q (g ss)
theorem wPerm_mono {g : List Sl → List Sl} (hr : Mono wr) : Mono (wPerm g wr) := fun ρ Q Q' k q => hr ρ _ _ (fun ss q => k _ q) q
/-- keywords alone; gS: the values in the parameters' order -/
structure KwO (K : PySem.W.Frag) (fd : FuncData) (ps ks : List Str) (g : {α : Type} → List α → List α) : Prop where
  to : ∀ (s : Shared) (ws : List Value), K.In s.heap → ws.length = ks.length → BindsTo s fd ⟨[], ks.zip ws⟩ (ps.zip (g ws))
  rel : ∀ {α β : Type} {R : α → β → Prop} {xs : List α} {ys : List β}, Paired R xs ys → xs.length = ks.length → Paired R (g xs) (g ys)
theorem pe_callKw {sp : Sp} {tk : TA} {g : {α : Type} → List α → List α} (Fo : FnOk X.prog X.w X.K X.mg X.base CX k f fd ps sp) (hr : Room k X.A) (hg : Gl X x) (hm : X.mg x = some (.ref f)) (hk : PySem.W.keepIn X.K (.ref f) = true) (hb : KwO X.K fd ps ks g) (hx : Passes CX X E)
    (hkw : PK X kws tk) (hall : (backToKw pos (keywordEach kws X.env)).all (·.1.isSome) = true := by rfl) (hks : (backToKw pos (keywordEach kws X.env)).filterMap (·.1) = ks := by rfl)
    (hdb : (x == ("__debug__" : Str)) = false := by decide) (hpl : ((backTo pos (starEach [] X.env)).any (·.1) || (backToKw pos (keywordEach kws X.env)).any (·.1.isNone)) = false := by rfl) :
    PE X (.Call (.Name x p) [] kws pos) (fun σ H Q => tk σ H fun zs H2 => zs.length = ks.length ∧ sp (g zs) H2 Q E) := by
  refine ⟨fun pins s σ H Q I h => ?_⟩
  refine wpAny_Call_Name_kw (ld_glob I hg hm ?_ hdb)
  refine PySem.W.callWith_KW0 (h₀ := X.base) I.ok.mod.kin hk hall (thn (hkw.run pos pins s σ H _ I h) fun ws s2 ⟨zs, H2, I2, rz, l, q2⟩ => ⟨I2.kIn, ?_⟩) hpl
  rw [hks]
  have lw : ws.length = ks.length := by rw [← l]; exact (paired_len rz).symm
  have r2 : Vals (g zs) (g ws) := hb.rel rz l
  refine wpAny_call (codeAny_mono (Fo.run X.A X.stack s2 H2 ⟨[], ks.zip ws⟩ (g ws) (g zs) Q E hr I2.env0 (hb.to s2 ws I2.kIn lw) r2 q2) fun r s' hq => ?_)
  cases r with
  | error e => exact hx pins σ H2 s2 e s' I2 hq
  | ok fl =>
    cases fl with
    | ret u => exact I2.after hq
    | next => exact False.elim hq
    | brk => exact False.elim hq
    | cont => exact False.elim hq
theorem se_callKw {g : {α : Type} → List α → List α} (hw : MonoF w) (Fo : FnOk X.prog X.w X.K X.mg X.base CX k f fd ps (spD X.K n w)) (hr : Room k X.A) (hg : Gl X x) (hm : X.mg x = some (.ref f)) (hk : PySem.W.keepIn X.K (.ref f) = true) (hb : KwO X.K fd ps ks g) (hx : Passes CX X E)
    (ha : SK X F kws wr) (hall : (backToKw pos (keywordEach kws X.env)).all (·.1.isSome) = true := by rfl) (hks : (backToKw pos (keywordEach kws X.env)).filterMap (·.1) = ks := by rfl)
    (hdb : (x == ("__debug__" : Str)) = false := by decide) (hpl : ((backTo pos (starEach [] X.env)).any (·.1) || (backToKw pos (keywordEach kws X.env)).any (·.1.isNone)) = false := by rfl) :
    SE X F (.Call (.Name x p) [] kws pos) (wCall w (wLen n (wPerm g (wLen ks.length wr))) (exD X.K F E)) := by
  refine ⟨pe_imp (pe_callKw Fo hr hg hm hk hb hx ha.pk hall hks hdb hpl) fun σ H Q q => ?_, wCall_mono (wLen_mono (wPerm_mono (wLen_mono ha.mono))) hw⟩
  obtain ⟨ρ, G, ow, R, q⟩ := q
  refine ⟨ρ, G, ow, R, ha.mono ρ _ _ (fun ss q vs H1 G1 g1 a1 => ?_) q⟩
  obtain ⟨l, lg, q⟩ := q
  have R1 := R.grow g1
  have lv : vs.length = ks.length := by rw [← l]; exact paired_len a1
  exact ⟨lv, F.dk, G1, _, R1.gr.sub, R1.dkok, hb.rel a1 lv, lg, hw _ _ _ _ _ (fun d h v H2 G2 g2 d2 => h v H2 G2 (g1.trans g2 R.dkok) d2) (fun C d h => eD_back R1 h) q⟩

/-! ### a def by its body -/
def slots0 (N : List Str) (ss : List Sl) : Env' := ss ++ List.replicate (N.length - ss.length) .un
theorem rep_start {K : PySem.W.Frag} {dk : DK} {H G : Hp} {vs : List V} {ss : List Sl} {N : List Str} (s : Same G H) (d : DkOk dk H G) (a : ArgsV K dk G vs ss) : Rep K ⟨H, G, dk⟩ (slots0 N ss) (L2.start N vs) H G fun _ => [] where
  s0 := s
  d0 := d
  gr := Grow.refl s d
  len := by
    have := paired_len a
    simp [slots0, L2.start, this]
  sl := fun i t e => by
    have hl := paired_len a
    unfold slots0 at e
    unfold L2.start
    by_cases hi : i < ss.length
    · rw [List.getElem?_append_left hi] at e
      have key : ∀ {vs : List V} {ss : List Sl} {i : Nat} {t : Sl}, ArgsV K dk G vs ss → ss[i]? = some t → ∃ v, vs[i]? = some v ∧ ArgV K dk G v t := by
        intro vs ss i t a e
        induction a generalizing i with
        | nil => simp at e
        | cons h _ ih =>
          cases i with
          | zero => simp at e; subst e; exact ⟨_, rfl, h⟩
          | succ i => obtain ⟨v, h1, h2⟩ := ih (by simpa using e); exact ⟨v, by simpa using h1, h2⟩
      obtain ⟨v, hv, av⟩ := key a e
      have hs : (List.map some vs ++ List.replicate (N.length - vs.length) none)[i]? = some (some v) := by
        rw [List.getElem?_append_left (by rw [List.length_map]; omega), List.getElem?_map, hv]; rfl
      cases t with
      | d x => exact ⟨rfl, v, hs, av⟩
      | dk => obtain ⟨k, hk, rfl⟩ := av; exact ⟨rfl, k, hk, hs⟩
      | un => exact av.elim
      | l _ => exact av.elim
      | k _ => exact av.elim
      | t _ => exact av.elim
    · rw [List.getElem?_append_right (by omega), List.getElem?_replicate] at e
      split at e
      · cases e; exact rfl
      · cases e
  fr := fun i p h => absurd h (by simp)
  dj := fun i j p h => absurd h (by simp)
/-- the ends of a def's body that Q and E wish -/
def enD (Q : PyData → Prop) : En where
  nx := fun _ => Q .none
  rt := Q
theorem body_lift {K : PySem.W.Frag} {dk : DK} {H G : Hp} {vs : List V} {ss : List Sl} {N : List Str} {Q : VK} {wb : WS} (hm : MonoS wb) (s : Same G H) (d : DkOk dk H G) (a : ArgsV K dk G vs ss) (q : wb (slots0 N ss) (enD (qD K dk H G Q))) :
    liftS K ⟨H, G, dk⟩ wb { nx := fun _ H' => Q .non H', rt := Q } (L2.start N vs) H := by
  refine ⟨_, G, _, rep_start s d a, hm _ _ _ ?_ q⟩
  exact ⟨fun ρ h σ H' G' ow R s' => h .non H' G' R.gr .non, fun r h => h, fun _ h => h.elim, fun _ h => h.elim⟩
/-- a def that raises nothing -/
theorem ok_def {P : Program} {wd : World} {K : PySem.W.Frag} {mg : Str → Option Value} {base : Heap} {x qual : Str} {st : Stmt} {f : Addr} {fd : FuncData} {N ps : List Str} {k n : Nat} {w : WF} (Fu : L2.Fun K x qual st f fd) (S : FnScope N ps (defScope st)) (hn : n = ps.length)
    (wb : WS) (hbody : ∀ (cdv : Value) (A : Around) (outer : List Env) (s : Shared) (H : Hp) (E : XK) (F : Fx), Room k (A.deeper (PyProof.Rows.envOfC qual (defScope st) s.heap.objs.size f cdv)) → SSs (cxOf CX0 P wd K mg base N qual (defScope st) f cdv A outer s H E).nox F (defBody st) wb)
    (hw : ∀ ss Q E, ss.length = n → w ss Q E → wb (slots0 N ss) (enD Q)) : FnOk P wd K mg base CX0 (k + 1) f fd ps (spD K n w) := by
  refine Fu.ok S (fun vs H Q E h => by rw [spD_len h, hn]) fun cdv A outer s H vs Q E hr h => ?_
  obtain ⟨dk, G, ss, sm, d, a, l, q⟩ := h
  have B := hbody cdv A outer s H E ⟨H, G, dk⟩ hr
  exact ⟨_, B.ps, body_lift B.mono sm d a (hw ss _ _ l q)⟩
/-- a def that may raise; Ex: what may be let out -/
theorem ok_defX {P : Program} {wd : World} {K : PySem.W.Frag} {mg : Str → Option Value} {base : Heap} {x qual : Str} {st : Stmt} {f : Addr} {fd : FuncData} {N ps : List Str} {k n : Nat} {w : WF} (Fu : L2.Fun K x qual st f fd) (S : FnScope N ps (defScope st)) (hn : n = ps.length)
    (wb : (Addr → PyData → Prop) → WS) (hbody : ∀ (cdv : Value) (A : Around) (outer : List Env) (s : Shared) (H : Hp) (E : XK) (F : Fx), Room k (A.deeper (PyProof.Rows.envOfC qual (defScope st) s.heap.objs.size f cdv)) → SSs (cxOf (L2.CX P wd) P wd K mg base N qual (defScope st) f cdv A outer s H E) F (defBody st) (wb (exD K F E)))
    (hw : ∀ ss Q Ex, ss.length = n → w ss Q Ex → wb Ex (slots0 N ss) (enD Q)) : FnOk P wd K mg base (L2.CX P wd) (k + 1) f fd ps (spD K n w) := by
  refine Fu.okX S (fun vs H Q E h => by rw [spD_len h, hn]) fun cdv A outer s H vs Q E hr h => ?_
  obtain ⟨dk, G, ss, sm, d, a, l, q⟩ := h
  have B := hbody cdv A outer s H E ⟨H, G, dk⟩ hr
  exact ⟨_, B.ps, body_lift B.mono sm d a (hw ss _ _ l q)⟩
end
end DL
set_option maxRecDepth 100000
set_option maxHeartbeats 2000000
/-! # list(zip(a, b)) of two lists -/
namespace DZ
open PySem PySem.Spec
theorem zip_no_len : typeLookup (.type "zip") "__len__" = pure none := by rw [typeLookup_type, builtinLookup_eq_fast]; kernel_rfl
theorem zip_no_hint : typeLookup (.type "zip") "__length_hint__" = pure none := by rw [typeLookup_type, builtinLookup_eq_fast]; kernel_rfl
/-- the zip ahead of turn i -/
structure ZAt (h : Heap) (z TI TO i1 i2 l1 l2 : Addr) (xs ys : Array Value) (i : Nat) : Prop where
  held : (i = 0 ∧ IsZip h z TI TO .none ∧ ∃ x y, IsPair h TO x y) ∨ ∃ T f oT, IsZipHeld h z TI TO T f ∧ h.get? T = some oT ∧ T ≠ z ∧ T ≠ TO ∧ T ≠ i1 ∧ T ≠ i2
  ti : IsPair h TI (.ref i1) (.ref i2)
  a1 : h.IsListIter i1 l1 i
  a2 : h.IsListIter i2 l2 i
  b1 : h.IsList l1 xs
  b2 : h.IsList l2 ys
def fpZ (z TI TO i1 i2 l1 l2 : Addr) : List Addr := [z, TI, TO, i1, i2, l1, l2]
section
variable {prog : Program} {w : World} {A : Around} {E : Value → Shared → Prop} {s : Shared} {z TI TO i1 i2 l1 l2 S : Addr} {xs ys : Array Value} {i n : Nat}
theorem ZAt.keep {h h' : Heap} (Z : ZAt h z TI TO i1 i2 l1 l2 xs ys i) (k : ∀ b o, b ≠ S → h.get? b = some o → h'.get? b = some o) (hS : ∀ b ∈ fpZ z TI TO i1 i2 l1 l2, b ≠ S) (hT : ∀ T oT, h.get? T = some oT → ∃ o', h'.get? T = some o') : ZAt h' z TI TO i1 i2 l1 l2 xs ys i where
  held := by
    rcases Z.held with ⟨e, hz, x, y, ho⟩ | ⟨T, f, oT, hz, ho, n1, n2, n3, n4⟩
    · exact .inl ⟨e, k _ _ (hS z (by simp [fpZ])) hz, x, y, k _ _ (hS TO (by simp [fpZ])) ho⟩
    · obtain ⟨o', ho'⟩ := hT T oT ho
      exact .inr ⟨T, f, o', k _ _ (hS z (by simp [fpZ])) hz, ho', n1, n2, n3, n4⟩
  ti := k _ _ (hS TI (by simp [fpZ])) Z.ti
  a1 := Z.a1.at fun o q => k _ _ (hS i1 (by simp [fpZ])) q
  a2 := Z.a2.at fun o q => k _ _ (hS i2 (by simp [fpZ])) q
  b1 := Z.b1.at fun o q => k _ _ (hS l1 (by simp [fpZ])) q
  b2 := Z.b2.at fun o q => k _ _ (hS l2 (by simp [fpZ])) q
theorem ZAt.next (D : ZipApart z TI TO i1 i2 l1 l2) (hl1 : l1 ≠ z ∧ l1 ≠ TO ∧ l1 ≠ i1 ∧ l1 ≠ i2) (hl2 : l2 ≠ z ∧ l2 ≠ TO ∧ l2 ≠ i1 ∧ l2 ≠ i2) {Q : Option Value → Shared → Prop} (Z : ZAt s.heap z TI TO i1 i2 l1 l2 xs ys i) {x y : Value} (hx : xs[i]? = some x) (hy : ys[i]? = some y)
    (hQ : ∀ h', ZAt h' z TI TO i1 i2 l1 l2 xs ys (i + 1) → IsPair h' s.heap.objs.size x y → h'.objs.size = s.heap.objs.size + 1 → (∀ c o, c ≠ z → c ≠ TO → c ≠ i1 → c ≠ i2 → s.heap.get? c = some o → h'.get? c = some o) → Q (some (.ref s.heap.objs.size)) { s with heap := h' }) :
    wpAny (model prog w) A (pyNext (.ref z)) Q E s := by
  have zl : z < s.heap.objs.size := by
    rcases Z.held with ⟨_, hz, _⟩ | ⟨T, f, oT, hz, _⟩ <;> exact Heap.lt_size hz
  have il1 : i1 < s.heap.objs.size := by obtain ⟨_, q, _⟩ := Z.a1; exact Heap.lt_size q
  have il2 : i2 < s.heap.objs.size := by obtain ⟨_, q, _⟩ := Z.a2; exact Heap.lt_size q
  rcases Z.held with ⟨e, hz, x0, y0, ho⟩ | ⟨T, f, oT, hz, ho, n1, n2, n3, n4⟩
  · have tl : TO < s.heap.objs.size := Heap.lt_size ho
    refine wpAny_pyNext_zip_item D hz Z.ti ho Z.a1 Z.a2 Z.b1 Z.b2 hx hy fun h' z' TO' h1' h2' hT hsz hk => ?_
    refine hQ h' ⟨.inr ⟨_, false, _, z', hT, Nat.ne_of_gt zl, Nat.ne_of_gt tl, Nat.ne_of_gt il1, Nat.ne_of_gt il2⟩, hk _ _ D.TIz D.TITO D.TIi1 D.TIi2 Z.ti, h1', h2', Z.b1.at fun o q => hk _ _ hl1.1 hl1.2.1 hl1.2.2.1 hl1.2.2.2 q, Z.b2.at fun o q => hk _ _ hl2.1 hl2.2.1 hl2.2.2.1 hl2.2.2.2 q⟩ hT hsz hk
  · refine wpAny_pyNext_zip_item_held D hz ho Z.ti Z.a1 Z.a2 Z.b1 Z.b2 hx hy fun h' z' h1' h2' hT hsz hk => ?_
    have tl : TO ≠ s.heap.objs.size → True := fun _ => trivial
    refine hQ h' ⟨.inr ⟨T, true, oT, z', hk _ _ n1 n3 n4 ho, n1, n2, n3, n4⟩, hk _ _ D.TIz D.TIi1 D.TIi2 Z.ti, h1', h2', Z.b1.at fun o q => hk _ _ hl1.1 hl1.2.2.1 hl1.2.2.2 q, Z.b2.at fun o q => hk _ _ hl2.1 hl2.2.2.1 hl2.2.2.2 q⟩ hT hsz fun c o c1 _ c3 c4 q => hk c o c1 c3 c4 q
theorem ZAt.stop (hh : A.handled = none) (D : ZipApart z TI TO i1 i2 l1 l2) {Q : Option Value → Shared → Prop} (Z : ZAt s.heap z TI TO i1 i2 l1 l2 xs ys i) (he : xs[i]? = none ∨ ys[i]? = none)
    (hQ : ∀ h', (∀ c o, c ≠ z → c ≠ TO → c ≠ i1 → c ≠ i2 → s.heap.get? c = some o → h'.get? c = some o) → Q none { s with heap := h' }) : wpAny (model prog w) A (pyNext (.ref z)) Q E s := by
  rcases Z.held with ⟨e, hz, x0, y0, ho⟩ | ⟨T, f, oT, hz, ho, n1, n2, n3, n4⟩
  · exact wpAny_pyNext_zip_end hh D hz Z.ti ho Z.a1 Z.a2 Z.b1 Z.b2 he hQ
  · exact wpAny_pyNext_zip_end_held hh D hz ho Z.ti Z.a1 Z.a2 Z.b1 Z.b2 he fun h' hk => hQ h' fun c o c1 _ c3 c4 q => hk c o c1 c3 c4 q
/-- what has come: pairs, all new -/
def PairsIn (h : Heap) (n0 : Nat) (xs ys acc : Array Value) : Prop := (∀ (j k : Nat) v, acc[j]? = some v → acc[k]? = some v → j = k) ∧ ∀ (j : Nat) v, acc[j]? = some v → ∃ T x y, v = .ref T ∧ n0 ≤ T ∧ IsPair h T x y ∧ xs[j]? = some x ∧ ys[j]? = some y
theorem ext_loop (hh : A.handled = none) (D : ZipApart z TI TO i1 i2 l1 l2) (hl1 : l1 ≠ z ∧ l1 ≠ TO ∧ l1 ≠ i1 ∧ l1 ≠ i2) (hl2 : l2 ≠ z ∧ l2 ≠ TO ∧ l2 ≠ i1 ∧ l2 ≠ i2) (hS : ∀ b ∈ fpZ z TI TO i1 i2 l1 l2, b ≠ S) (hn : n = min xs.size ys.size) (hz : n ≤ sizeLine) (n0 : Nat) (hn0 : ∀ b ∈ fpZ z TI TO i1 i2 l1 l2, b < n0) (hSn : S < n0) (res : Value) {R : Result → Shared → Prop} :
    ∀ (k i : Nat) (s : Shared) (acc : Array Value) (c : Nat), n - i = k → i ≤ n → ZAt s.heap z TI TO i1 i2 l1 l2 xs ys i → s.heap.get? S = some { cls := .type "list", dict := none, data := .seq acc c, slots := #[] } → acc.size = i → PairsIn s.heap n0 xs ys acc → n0 ≤ s.heap.objs.size →
    (∀ h' acc' c', (∀ b o, b ∉ S :: [z, TO, i1, i2] → s.heap.get? b = some o → h'.get? b = some o) → h'.get? S = some { cls := .type "list", dict := none, data := .seq acc' c', slots := #[] } → acc'.size = n → PairsIn h' n0 xs ys acc' → R (.ok (.ret res)) { s with heap := h' }) →
    codeAny (model prog w) A (.builtin "list.extend.loop" ⟨[.ref S, .ref z, res], []⟩) R s := by
  have zS := hS z (by simp [fpZ])
  have tS := hS TO (by simp [fpZ])
  have aS := hS i1 (by simp [fpZ])
  have bS := hS i2 (by simp [fpZ])
  have big : ∀ {T}, n0 ≤ T → T ≠ z ∧ T ≠ TO ∧ T ≠ i1 ∧ T ≠ i2 ∧ T ≠ S := fun {T} hT =>
    ⟨Nat.ne_of_gt (Nat.lt_of_lt_of_le (hn0 z (by simp [fpZ])) hT), Nat.ne_of_gt (Nat.lt_of_lt_of_le (hn0 TO (by simp [fpZ])) hT), Nat.ne_of_gt (Nat.lt_of_lt_of_le (hn0 i1 (by simp [fpZ])) hT), Nat.ne_of_gt (Nat.lt_of_lt_of_le (hn0 i2 (by simp [fpZ])) hT), Nat.ne_of_gt (Nat.lt_of_lt_of_le hSn hT)⟩
  intro k
  induction k with
  | zero =>
    intro i s acc c hk hi Z hSl ha hp hb hR
    have hin : i = n := by omega
    refine codeAny_builtin F.entry_extend_loop ?_
    rw [Around.under_plainId F.plain_extend_loop _]
    show wpAny _ A.in1 (pyNext (.ref z) >>= _) _ _ s
    refine wpAny_bind (Z.stop (A := A.in1) hh D ?_ fun h' kk => ?_)
    · rcases Nat.le_total xs.size ys.size with q | q
      · exact .inl (Array.getElem?_eq_none (by omega))
      · exact .inr (Array.getElem?_eq_none (by omega))
    refine wpAny_pure (hR h' acc c (fun b o hb q => ?_) (kk _ _ (Ne.symm zS) (Ne.symm tS) (Ne.symm aS) (Ne.symm bS) hSl) (by omega) ⟨hp.1, fun j v hv => ?_⟩)
    · simp only [List.mem_cons, List.not_mem_nil, or_false, not_or] at hb
      exact kk b o hb.2.1 hb.2.2.1 hb.2.2.2.1 hb.2.2.2.2 q
    · obtain ⟨T, x, y, e, hT, hpr, q1, q2⟩ := hp.2 j v hv
      obtain ⟨g1, g2, g3, g4, g5⟩ := big hT
      exact ⟨T, x, y, e, hT, kk _ _ g1 g2 g3 g4 hpr, q1, q2⟩
  | succ k ih =>
    intro i s acc c hk hi Z hSl ha hp hb hR
    have hlt : i < n := by omega
    have hx : xs[i]? = some (xs[i]'(by omega)) := by simp [show i < xs.size by omega]
    have hy : ys[i]? = some (ys[i]'(by omega)) := by simp [show i < ys.size by omega]
    refine codeAny_builtin F.entry_extend_loop ?_
    rw [Around.under_plainId F.plain_extend_loop _]
    show wpAny _ A.in1 (pyNext (.ref z) >>= _) _ _ s
    refine wpAny_bind (Z.next D hl1 hl2 hx hy fun h' Z' hT hsz kk => ?_)
    have hS' : h'.get? S = some { cls := .type "list", dict := none, data := .seq acc c, slots := #[] } := kk _ _ (Ne.symm zS) (Ne.symm tS) (Ne.symm aS) (Ne.symm bS) hSl
    show wpAny _ A.in1 (updateSeq S (·.push (.ref s.heap.objs.size)) >>= _) _ _ _
    refine wpAny_bind ?_
    have oth : ∀ b o, b ≠ S → h'.get? b = some o → (h'.update S (Obj.mapSeq (·.push (.ref s.heap.objs.size)))).get? b = some o := fun b o hb e => (Heap.get?_update_other _ _ (Ne.symm hb)).trans e
    have hSu := Heap.get?_update_self (Obj.mapSeq (·.push (.ref s.heap.objs.size))) hS' rfl
    refine wpAny_updateSeq hS' rfl (wpAny_pure ⟨plainId_quiet F.plain_extend_loop _, ih (i + 1) _ (acc.push (.ref s.heap.objs.size)) _ (by omega) hlt (Z'.keep (S := S) oth hS fun T oT q => ?_) hSu (by rw [Array.size_push, ha]) ⟨fun j k v hv hw => ?_, fun j v hv => ?_⟩ ?_ fun h2 acc' c' k2 e2 s2 p2 => ?_⟩)
      (by rw [ha]; omega) (by show (acc.push _).size ≤ sizeLine + 1; rw [Array.size_push, ha]; omega)
    · by_cases e : T = S
      · subst e; exact ⟨_, hSu⟩
      · exact ⟨_, oth T oT e q⟩
    · have lt : ∀ {j : Nat} {v : Value}, acc[j]? = some v → v ≠ .ref s.heap.objs.size := fun {j v} q e => by
        obtain ⟨T, x, y, e2, _, hpr, _⟩ := hp.2 j v q
        rw [e2] at e
        cases e
        exact absurd (Heap.lt_size hpr) (Nat.lt_irrefl _)
      rw [Array.getElem?_push] at hv hw
      split at hv
      · split at hw
        · omega
        · cases hv; exact absurd rfl (lt hw)
      · split at hw
        · cases hw; exact absurd rfl (lt hv)
        · exact hp.1 j k v hv hw
    · rw [Array.getElem?_push] at hv
      split at hv
      · rename_i hj
        cases hv
        obtain rfl : j = i := by omega
        exact ⟨_, _, _, rfl, hb, oth _ _ (big hb).2.2.2.2 hT, hx, hy⟩
      · obtain ⟨T, x, y, e, hT', hpr, q1, q2⟩ := hp.2 j v hv
        obtain ⟨g1, g2, g3, g4, g5⟩ := big hT'
        exact ⟨T, x, y, e, hT', oth _ _ g5 (kk _ _ g1 g2 g3 g4 hpr), q1, q2⟩
    · show n0 ≤ (h'.update S _).objs.size
      rw [Heap.size_update]; omega
    · refine hR h2 acc' c' (fun b o hb q => ?_) e2 s2 p2
      have hb' := hb
      simp only [List.mem_cons, List.not_mem_nil, or_false, not_or] at hb'
      exact k2 b o hb (oth b o hb'.1 (kk b o hb'.2.1 hb'.2.2.1 hb'.2.2.2.1 hb'.2.2.2.2 q))
theorem zip_typed {h : Heap} (Z : ZAt h z TI TO i1 i2 l1 l2 xs ys i) : ∃ o, h.get? z = some o ∧ o.cls = .type "zip" := by
  rcases Z.held with ⟨e, hz, _⟩ | ⟨T, f, oT, hz, _⟩
  · exact ⟨_, hz, rfl⟩
  · exact ⟨_, hz, rfl⟩
theorem iter_self {Q : Value → Shared → Prop} (Z : ZAt s.heap z TI TO i1 i2 l1 l2 xs ys 0) (hz : IsZip s.heap z TI TO .none) (h : Q (.ref z) s) : wpAny (model prog w) A (pyIter (.ref z)) Q E s := wpAny_pyIter_zip hz h
/-- what is had behind it -/
def Got (base : Heap) (z TO i1 i2 S n0 n : Nat) (xs ys : Array Value) (h' : Heap) (acc : Array Value) (c : Nat) : Prop :=
  (∀ b o, b ∉ S :: [z, TO, i1, i2] → base.get? b = some o → h'.get? b = some o) ∧ h'.get? S = some { cls := .type "list", dict := none, data := .seq acc c, slots := #[] } ∧ acc.size = n ∧ PairsIn h' n0 xs ys acc
theorem extend_zip (hh : A.handled = none) (D : ZipApart z TI TO i1 i2 l1 l2) (hl1 : l1 ≠ z ∧ l1 ≠ TO ∧ l1 ≠ i1 ∧ l1 ≠ i2) (hl2 : l2 ≠ z ∧ l2 ≠ TO ∧ l2 ≠ i1 ∧ l2 ≠ i2) (hS : ∀ b ∈ fpZ z TI TO i1 i2 l1 l2, b ≠ S) (hn : n = min xs.size ys.size) (hz : n ≤ sizeLine) (n0 : Nat) (hn0 : ∀ b ∈ fpZ z TI TO i1 i2 l1 l2, b < n0) (hSn : S < n0) (hb : n0 ≤ s.heap.objs.size)
    (res : Value) (c0 : Nat) {R : Result → Shared → Prop} (Z : ZAt s.heap z TI TO i1 i2 l1 l2 xs ys 0) (hzip : IsZip s.heap z TI TO .none) (hSl : s.heap.get? S = some { cls := .type "list", data := .seq #[] c0 })
    (hR : ∀ h' acc' c', Got s.heap z TO i1 i2 S n0 n xs ys h' acc' c' → R (.ok (.ret res)) { s with heap := h' }) :
    wpAny (model prog w) A.in1 (Builtin.List.listExtendWith (.ref S) (.ref z) res)
      (fun fin s' => match fin with | .done f => R (.ok f) s' | .again c' => c'.quiet = true ∧ codeAny (model prog w) A c' R s') (fun e s' => R (.error e) s') s := by
  have hSz : S ≠ z := Ne.symm (hS z (by simp [fpZ]))
  have hT : s.TypeIs (.ref z) "zip" := zip_typed Z
  unfold Builtin.List.listExtendWith
  refine wpAny_bind (wpAny_typeOf hT ?_)
  have h1 : Builtin.List.listSameRef (.ref S) (.ref z) = false := by simp [Builtin.List.listSameRef, hSz]
  have h2 : (Value.type "zip" == Value.type "list") = false := by decide
  have h3 : (Value.type "zip" == Value.type "tuple") = false := by decide
  simp only [h1, h2, h3, Bool.or_false, Bool.false_eq_true, if_false]
  refine wpAny_bind (wpAny_pyIter_zip hzip ?_)
  refine wpAny_bind (wpAny_holding ?_)
  unfold Builtin.List.listLengthHint
  refine wpAny_bind (wpAny_specialOf hT zip_no_len ?_)
  show wpAny _ A.in1 (specialOf (Value.ref z) (Str.ofString "__length_hint__") >>= _) _ _ _
  refine wpAny_bind (wpAny_specialOf hT zip_no_hint ?_)
  refine wpAny_pure ?_
  show wpAny _ A.in1 (rule "list.extend.makes-room" >>= fun _ => Builtin.List.listTouch (.ref S) >>= fun _ =>
    again (.builtin "list.extend.loop" ⟨[.ref S, .ref z, res], []⟩)) _ _ _
  refine wpAny_bind (wpAny_rule ?_)
  refine wpAny_bind ?_
  show wpAny _ A.in1 (updateSeq S (·.push .none) >>= fun _ => updateSeq S (·.pop)) _ _ _
  refine wpAny_bind (wpAny_updateSeq hSl rfl ?_)
  have hS2 := Heap.get?_update_self (Obj.mapSeq (·.push Value.none)) hSl rfl
  refine wpAny_updateSeq (hz := by seq_fits) hS2 rfl ?_
  have hS3 := Heap.get?_update_self (Obj.mapSeq (·.pop)) hS2 rfl
  have oth : ∀ b o, b ≠ S → s.heap.get? b = some o → ((s.heap.update S (Obj.mapSeq (·.push Value.none))).update S (Obj.mapSeq (·.pop))).get? b = some o :=
    fun b o hb e => (Heap.get?_update_other _ _ (Ne.symm hb)).trans ((Heap.get?_update_other _ _ (Ne.symm hb)).trans e)
  refine wpAny_pure ⟨plainId_quiet F.plain_extend_loop _, ext_loop hh D hl1 hl2 hS hn hz n0 hn0 hSn res n 0 _ #[] _ rfl (Nat.zero_le _)
    (Z.keep (S := S) oth hS fun T oT q => ?_) hS3 rfl ⟨fun j k v hv => by simp at hv, fun j v hv => by simp at hv⟩ (by rw [Heap.size_update, Heap.size_update]; exact hb) fun h' acc' c' k e1 e2 e3 => ?_⟩
  · by_cases e : T = S
    · subst e; exact ⟨_, hS3⟩
    · exact ⟨_, oth T oT e q⟩
  · exact hR h' acc' c' ⟨fun b o hb q => k b o hb (oth b o (fun e => hb (by rw [e]; simp)) q), e1, e2, e3⟩
theorem init_zip (hh : A.handled = none) (D : ZipApart z TI TO i1 i2 l1 l2) (hl1 : l1 ≠ z ∧ l1 ≠ TO ∧ l1 ≠ i1 ∧ l1 ≠ i2) (hl2 : l2 ≠ z ∧ l2 ≠ TO ∧ l2 ≠ i1 ∧ l2 ≠ i2) (hS : ∀ b ∈ fpZ z TI TO i1 i2 l1 l2, b ≠ S) (hn : n = min xs.size ys.size) (hz : n ≤ sizeLine) (n0 : Nat) (hn0 : ∀ b ∈ fpZ z TI TO i1 i2 l1 l2, b < n0) (hSn : S < n0) (hb : n0 ≤ s.heap.objs.size)
    {R : Result → Shared → Prop} (Z : ZAt s.heap z TI TO i1 i2 l1 l2 xs ys 0) (hzip : IsZip s.heap z TI TO .none) (hSl : s.heap.get? S = some { cls := .type "list", data := .seq #[] })
    (hR : ∀ h' acc' c', Got s.heap z TO i1 i2 S n0 n xs ys h' acc' c' → R (.ok (.ret .none)) { s with heap := h' }) :
    wpAny (model prog w) A.in1 (Builtin.«list.__init__» ⟨[.ref S, .ref z], []⟩)
      (fun fin s' => match fin with | .done f => R (.ok f) s' | .again c' => c'.quiet = true ∧ codeAny (model prog w) A c' R s') (fun e s' => R (.error e) s') s := by
  show wpAny _ A.in1 (do let old ← Builtin.List.listItems (.ref S); Builtin.List.listUpdate (.ref S) (fun _ => #[]); letGo old.toList.reverse; Builtin.List.listExtendWith (.ref S) (.ref z) .none) _ _ s
  refine wpAny_bind ?_
  unfold Builtin.List.listItems
  refine wpAny_bind (wpAny_seqItems hSl rfl (wpAny_pure ?_))
  show wpAny _ A.in1 (updateSeq S (fun _ => #[]) >>= fun _ => letGo (#[] : Array Value).toList.reverse >>= fun _ => Builtin.List.listExtendWith (.ref S) (.ref z) .none) _ _ s
  refine wpAny_bind (wpAny_updateSeq hSl rfl ?_)
  have hS2 := Heap.get?_update_self (Obj.mapSeq (fun _ => (#[] : Array Value))) hSl rfl
  have oth : ∀ b o, b ≠ S → s.heap.get? b = some o → (s.heap.update S (Obj.mapSeq (fun _ => (#[] : Array Value)))).get? b = some o :=
    fun b o hb e => (Heap.get?_update_other _ _ (Ne.symm hb)).trans e
  refine wpAny_bind (wpAny_letGo ?_)
  refine extend_zip hh D hl1 hl2 hS hn hz n0 hn0 hSn (by rw [Heap.size_update]; exact hb) .none _ (Z.keep (S := S) oth hS fun T oT q => ?_) (oth _ _ (hS z (by simp [fpZ])) hzip) hS2 fun h' acc' c' g => hR h' acc' c' ⟨fun b o hb q => g.1 b o hb (oth b o (fun e => hb (by rw [e]; simp)) q), g.2⟩
  by_cases e : T = S
  · subst e; exact ⟨_, hS2⟩
  · exact ⟨_, oth T oT e q⟩
theorem call_list_zip {Q : Value → Shared → Prop} (hh : A.handled = none) (D : ZipApart z TI TO i1 i2 l1 l2) (hl1 : l1 ≠ z ∧ l1 ≠ TO ∧ l1 ≠ i1 ∧ l1 ≠ i2) (hl2 : l2 ≠ z ∧ l2 ≠ TO ∧ l2 ≠ i1 ∧ l2 ≠ i2) (hn : n = min xs.size ys.size) (hz : n ≤ sizeLine) (hn0 : ∀ b ∈ fpZ z TI TO i1 i2 l1 l2, b < s.heap.objs.size)
    (Z : ZAt s.heap z TI TO i1 i2 l1 l2 xs ys 0) (hzip : IsZip s.heap z TI TO .none)
    (hQ : ∀ h' acc' c', (∀ b o, b ∉ [z, TO, i1, i2] → s.heap.get? b = some o → h'.get? b = some o) → h'.get? s.heap.objs.size = some { cls := .type "list", dict := none, data := .seq acc' c', slots := #[] } → acc'.size = n → PairsIn h' (s.heap.objs.size + 1) xs ys acc' → Q (.ref s.heap.objs.size) { s with heap := h' }) :
    wpAny (model prog w) A (call (.type "list") [.ref z]) Q E s := by
  refine callType_codes (Q₁ := fun obj s₁ => obj = .ref s.heap.objs.size ∧ s₁ = { s with heap := s.heap.push { cls := .type "list", data := .seq #[] } }) F.called_list (F.typeCall_list_1 _) F.entry_list_init
    (code_list_new _ ⟨rfl, rfl⟩) fun obj s₁ h₁ => ?_
  obtain ⟨rfl, rfl⟩ := h₁
  have hS : (s.heap.push { cls := .type "list", data := .seq #[] }).get? s.heap.objs.size = some { cls := .type "list", data := .seq #[] } := Heap.get?_push_size _ rfl
  have old : ∀ b o, s.heap.get? b = some o → (s.heap.push { cls := .type "list", data := .seq #[] }).get? b = some o := fun b o e => Heap.get?_push_of_some _ e
  have apart : ∀ b ∈ fpZ z TI TO i1 i2 l1 l2, b ≠ s.heap.objs.size := fun b hb => Nat.ne_of_lt (hn0 b hb)
  refine ⟨⟨_, hS, rfl⟩, F.args_list_init_2 _ _, init_zip (A := A.in1) hh D hl1 hl2 apart hn hz (s.heap.objs.size + 1) (fun b hb => Nat.lt_succ_of_lt (hn0 b hb)) (Nat.lt_succ_self _) (by show _ ≤ (s.heap.push _).objs.size; rw [Heap.size_push]; exact Nat.le_refl _)
    (Z.keep (S := s.heap.objs.size) (fun b o _ q => old b o q) apart fun T oT q => ⟨_, old T oT q⟩) (old _ _ hzip) hS fun h' acc' c' g => ?_⟩
  exact ⟨rfl, hQ h' acc' c' (fun b o hb e => g.1 b o (fun m => (List.mem_cons.mp m).elim (fun e' => absurd (Heap.lt_size e) (by rw [e']; exact Nat.lt_irrefl _)) hb) (old b o e)) g.2.1 g.2.2.1 g.2.2.2⟩
end
end DZ
set_option maxRecDepth 100000
set_option maxHeartbeats 2000000
/-! # The data layer: further rules -/
namespace DL
open PySem PySem.Spec L2
section
variable {X : Cx} {F : Fx} {a b c e : Expr} {es : List Expr} {pos p p2 pos2 apos : Pos} {wa wb wc : WE} {wr : WA} {K : PySem.W.Frag}

/-! ### - x -/
def negD : PyData → Option PyData
  | .int i => some (.int (-i))
  | _ => none
def wNeg (wa : WE) : WE := w1 negD wa
theorem se_neg (ha : SE X F a wa) : SE X F (.UnaryOp .USub a pos) (wNeg wa) := by
  refine ⟨pe_imp (pe_un un_neg ha.pe) fun σ H Q q => ?_, w1_mono ha.mono⟩
  obtain ⟨ρ, G, ow, R, q⟩ := q
  refine ⟨ρ, G, ow, R, ha.mono ρ _ _ (fun x q v H1 G1 g1 d1 => ?_) q⟩
  obtain ⟨z, e, q⟩ := q
  cases d1 with
  | int i => cases e; exact ⟨i, rfl, q _ H1 G1 g1 (.int _)⟩
  | _ => cases e

/-! ### calls that let nothing out -/
def noEx : Addr → PyData → Prop := fun _ _ => False
variable {CX : CXT} {k n : Nat} {f : Addr} {fd : FuncData} {ps ks : List Str} {w : WF} {x : Str} {wp : WP} {kws : List Keyword}
theorem se_imp {w w' : WE} (h : SE X F e w) (m : Mono w') (k : ∀ ρ Q, w' ρ Q → w ρ Q) : SE X F e w' := ⟨pe_imp h.pe fun σ H Q ⟨ρ, G, ow, R, q⟩ => ⟨ρ, G, ow, R, k ρ _ q⟩, m⟩
theorem noEx_call (hm : Mono wp) (hw : MonoF w) {Ex : Addr → PyData → Prop} (ρ : Env') (Q : PyData → Prop) (h : wCall w wp noEx ρ Q) : wCall w wp Ex ρ Q := hm ρ _ _ (fun ss q => hw ss _ _ _ _ (fun _ h => h) (fun _ _ z => z.elim) q) h
theorem se_callN (hw : MonoF w) (Fo : FnOk X.prog X.w X.K X.mg X.base CX k f fd ps (spD X.K n w)) (hr : Room k X.A) (hg : Gl X x) (hm : X.mg x = some (.ref f)) (hk : PySem.W.keepIn X.K (.ref f) = true) (hb : Binds X.K fd ps []) (hx : Passes CX X E0) (ha : SP X F (e :: es) wp)
    (hdb : (x == ("__debug__" : Str)) = false := by decide) (he : starEach (e :: es) X.env = (false, eval e X.env) :: starEach es X.env := by rfl) (hpl : (backTo pos (starEach es X.env)).any (·.1) = false := by rfl) :
    SE X F (.Call (.Name x p) (e :: es) [] pos) (wCall w (wLen n wp) noEx) :=
  se_imp (se_call hw Fo hr hg hm hk hb hx ha hdb he hpl) (wCall_mono (wLen_mono ha.mono) hw) (noEx_call (wLen_mono ha.mono) hw)
theorem se_callNKw {g : {α : Type} → List α → List α} (hw : MonoF w) (Fo : FnOk X.prog X.w X.K X.mg X.base CX k f fd ps (spD X.K n w)) (hr : Room k X.A) (hg : Gl X x) (hm : X.mg x = some (.ref f)) (hk : PySem.W.keepIn X.K (.ref f) = true) (hb : KwO X.K fd ps ks g) (hx : Passes CX X E0)
    (ha : SK X F kws wp) (hall : (backToKw pos (keywordEach kws X.env)).all (·.1.isSome) = true := by rfl) (hks : (backToKw pos (keywordEach kws X.env)).filterMap (·.1) = ks := by rfl)
    (hdb : (x == ("__debug__" : Str)) = false := by decide) (hpl : ((backTo pos (starEach [] X.env)).any (·.1) || (backToKw pos (keywordEach kws X.env)).any (·.1.isNone)) = false := by rfl) :
    SE X F (.Call (.Name x p) [] kws pos) (wCall w (wLen n (wPerm g (wLen ks.length wp))) noEx) :=
  se_imp (se_callKw hw Fo hr hg hm hk hb hx ha hall hks hdb hpl) (wCall_mono (wLen_mono (wPerm_mono (wLen_mono ha.mono))) hw) (noEx_call (wLen_mono (wPerm_mono (wLen_mono ha.mono))) hw)

/-! ### repr -/
def shownOk (d : PyData) : Bool := d.showable && decide (d.shown.length ≤ sizeLine) && decide (d.depth ≤ 64)
def reprD : List PyData → Option PyData
  | [d] => if shownOk d = true then some (.str d.shown) else none
  | _ => none
theorem dq_hasDict {G : Hp} : ∀ (d : PyData) (v : V), Dq K G v d → d.hasDict = false
  | .none, _, .non => rfl
  | .bool _, _, .bl _ => rfl
  | .int _, _, .int _ => rfl
  | .str _, _, .str _ => rfl
  | .list ds, _, .lst _ a => dqa_hasDict ds _ a
  | .tuple ds, _, .tup _ a => dqa_hasDict ds _ a
where dqa_hasDict {G : Hp} : ∀ (ds : List PyData) (vs : List V), DqAll K G vs ds → PyData.hasDictAll ds = false
  | [], _, .nil => rfl
  | d :: ds, _, .cons h a => by simp [PyData.hasDictAll, dq_hasDict d _ h, dqa_hasDict ds _ a]
def rRepr (K : PySem.W.Frag) : List V → Hp → VK → Prop := fun vs H Q => ∃ v d, vs = [v] ∧ Dp K H v d ∧ shownOk d = true ∧ d.hasDict = false ∧ Q (.str d.shown) H
theorem call_reprQ (hgd : X.A.guards = some []) (hu : X.A.units + 65 < cLine) : CallR X (.builtin "repr") (rRepr X.K) := by
  intro pins s σ H vs us Q I r h
  obtain ⟨v, d, rfl, hd, ok, nd, q⟩ := h
  unfold shownOk at ok
  simp only [Bool.and_eq_true, decide_eq_true_eq] at ok
  obtain ⟨⟨ok, sz⟩, dp⟩ := ok
  cases r with
  | cons rv rr =>
    cases rr
    have fin : ∀ h' u tk, (∀ b o, s.heap.get? b = some o → h'.get? b = some o) → EP X pins σ Q (.str d.shown u) { s with heap := h', toks := tk } := fun h' u tk kk => ⟨.str d.shown, H, I.kept (t' := tk) kk, ⟨u, rfl⟩, q⟩
    obtain ⟨as, rd⟩ := Dp.reads I d v _ hd rv
    cases hd with
    | non => cases rv; exact PySem.P.repr_of_none (fin s.heap _ _ fun _ _ e => e)
    | bl b => cases rv; exact PySem.P.repr_of_bool (fin s.heap _ _ fun _ _ e => e)
    | int i =>
      obtain ⟨t, rfl⟩ := rv
      exact PySem.P.repr_of_int (by simpa [PyData.showable] using ok) (fin s.heap _ _ fun _ _ e => e)
    | str x =>
      obtain ⟨t, rfl⟩ := rv
      exact PySem.P.repr_of_str (fin s.heap _ _ fun _ _ e => e) sz
    | lst h1 h2 =>
      cases rv
      exact PySem.repr_of_reads' rd ok (PyData.noDict_hsm nd) hgd (by omega) (fun _ _ e => e) fin sz
    | tup h1 h2 =>
      cases rv
      exact PySem.repr_of_reads' rd ok (PyData.noDict_hsm nd) hgd (by omega) (fun _ _ e => e) fin sz
theorem cl_repr : ClD K (rRepr K) reprD := by
  intro dk vs ds z H G Q s d a e q
  match ds, e with
  | [x], e =>
    obtain ⟨v, rfl, h1⟩ := dqa1 a
    simp only [reprD] at e
    split at e
    · cases e
      exact ⟨v, x, rfl, Dq.dp _ _ (dp_mono s _ _ h1), by assumption, dq_hasDict _ _ h1, q _ H G (grow_refl s d) (.str _)⟩
    · cases e

/-! ### text * number, list * number, tuple * number -/
def repT (x : Str) (k : Int) : Str := if k < 1 then Str.empty else if (k == 1 || x.length == 0) = true then x else ⟨(List.replicate k.toNat x.cps).foldl (· ++ ·) #[]⟩
def mulQD : PyData → PyData → Option PyData
  | .int i, .int j => if cMul i j = true then some (.int (i * j)) else none
  | .str x, .int k => if decide (0 ≤ k) && decide (k ≤ 1000) && decide (x.length ≤ 1000) then some (.str (repT x k)) else none
  | .list xs, .int k => if decide (0 ≤ k) && decide (k ≤ 1000) && decide (xs.length ≤ 1000) then some (.list (List.replicate k.toNat xs).flatten) else none
  | .tuple xs, .int k => if k = 1 then some (.tuple xs) else if decide (2 ≤ k) && decide (k ≤ 1000) && decide (xs.length ≤ 1000) && !xs.isEmpty then some (.tuple (List.replicate k.toNat xs).flatten) else none
  | _, _ => none
def rMulS : R2 := fun x y H Q => ∃ z k, x = .str z ∧ y = .int k ∧ 0 ≤ k ∧ k ≤ 1000 ∧ z.length ≤ 1000 ∧ Q (.str (repT z k)) H
theorem size_fold {α : Type} (a : Array α) : ∀ (m : Nat) (acc : Array α), (List.foldl (· ++ ·) acc (List.replicate m a)).size = acc.size + m * a.size
  | 0, acc => by simp
  | m + 1, acc => by
    rw [List.replicate_succ, List.foldl_cons, size_fold a m, Array.size_append, Nat.add_mul]; omega
theorem op_mulS : OpR X (binaryOp .Mult) rMulS := by
  intro pins s σ H x y v u Q I rx ry h
  obtain ⟨z, k, rfl, rfl, h0, h1, hz, q⟩ := h
  obtain ⟨t, rfl⟩ := rx
  obtain ⟨t', rfl⟩ := ry
  have hr : (decide (k < -(2 ^ 63 : Int)) || decide (k ≥ 2 ^ 63)) = false := by
    rw [decide_eq_false (by omega), decide_eq_false (by omega)]; rfl
  have hmul : z.length * k.toNat ≤ 1000 * 1000 := Nat.mul_le_mul hz (by omega)
  refine PySem.P.mul_str hr (fun h _ => ?_) (fun _ _ => ?_) ?_
  · have : (1000 : Int) ≤ (2 ^ 63 - 1) / k := by
      rw [Int.le_ediv_iff_mul_le (by omega)]
      omega
    omega
  · unfold PySem.Builtin.Str.tooLong
    rw [decide_eq_false_iff_not, PySem.sizeLine_eq]; omega
  · unfold repT at q
    split
    · rename_i hk
      rw [if_pos hk] at q
      exact ⟨by decide, .str Str.empty, H, I.tok _, ⟨_, rfl⟩, q⟩
    · rename_i hk
      rw [if_neg hk] at q
      split
      · rename_i hk2
        rw [if_pos hk2] at q
        exact ⟨.str z, H, I, ⟨_, rfl⟩, q⟩
      · rename_i hk2
        rw [if_neg hk2] at q
        refine ⟨?_, .str ⟨(List.replicate k.toNat z.cps).foldl (· ++ ·) #[]⟩, H, I.tok _, ⟨_, rfl⟩, q⟩
        show (List.foldl (· ++ ·) #[] (List.replicate k.toNat z.cps)).size ≤ sizeLine
        rw [size_fold, PySem.sizeLine_eq]
        have : k.toNat * z.cps.size ≤ 1000 * 1000 := Nat.mul_le_mul (by omega) hz
        simp only [List.size_toArray, List.length_nil]
        omega
open PyProof.Rows in
theorem tuple_mul1 (l : Addr) (items : Array Value) (n : Nat) (dd : Option Addr) (sl : Array (Option Value)) (u : Tok) :
    Meets (Builtin.«tuple.__mul__» ⟨[.ref l, .int 1 u], []⟩) (fun _ R s => s.heap.get? l = some { cls := .type "tuple", dict := dd, data := .seq items n, slots := sl } ∧ R (.ok (.ret (Value.ref l))) s) :=
  .of_wp fun prog w A R s h => by
    obtain ⟨hp, g, d, tk, os⟩ := s
    obtain ⟨hl, h⟩ := h
    have f1 := AutoSeq1.idx_int
    have c1 : (items.isEmpty || (1 : Int) == 1) = true := by simp
    wp_walk using wpAny_loadPart' hl
    repeat (first
      | (refine wpAny_ite_true (decide_eq_true (by rw [c1])) ?_; wp_walk using wpAny_loadPart' hl)
      | (rw [c1]; wp_walk using wpAny_loadPart' hl))
    exact ⟨_, rfl, h⟩
def rMulT1 (K : PySem.W.Frag) : R2 := fun x y H Q => ∃ l xs, x = .ref l ∧ y = .int 1 ∧ SqT K H l xs ∧ Q (.ref l) H
theorem op_mulT1 : OpR X (binaryOp .Mult) (rMulT1 X.K) := by
  intro pins s σ H x y v u Q I rx ry h
  obtain ⟨l, xs, rfl, rfl, hT, q⟩ := h
  cases rx
  obtain ⟨t, rfl⟩ := ry
  obtain ⟨its, r, ⟨⟨cls, dd, data, sl⟩, ho, hc, n, hd⟩, hs⟩ := I.tuple hT
  simp only at hc hd
  subst hc hd
  refine wpAny_binaryOp_repeat_ref (T := "tuple") (U := "int") (by decide) ⟨_, ho, rfl⟩ (fun s' => typeIs_int s' 1 t) noFill_tuple_mul PySem.F.fills_int_mul PySem.F.slot_int_rmul repeat_tuple PySem.F.slot_int_index.lookup
    (call_meets PySem.F.slot_int_rmul (typeIs_int s 1 t) PySem.F.entry_int_rmul (PySem.F.args_int_rmul_2 _ _) (int_rmul_tuple 1 t l its.toArray n dd sl)
      ⟨ho, rfl, ⟨_, ho, rfl⟩, call_meets PySem.F.slot_tuple_mul ⟨_, ho, rfl⟩ PySem.F.entry_tuple_mul (PySem.F.args_tuple_mul_2 _ _) (tuple_mul1 l its.toArray n dd sl t) ⟨ho, ?_⟩⟩)
  exact ⟨.ref l, H, I, rfl, q⟩
theorem op_mulQ : OpR X (binaryOp .Mult) (fun x y H Q => rI CMul (fun i j => .int (i * j)) x y H Q ∨ rMulS x y H Q ∨ rRep x y H Q ∨ rRepT X.K x y H Q ∨ rMulT1 X.K x y H Q) := op_mul.or (op_mulS.or (op_rep.or (op_repT.or op_mulT1)))
theorem dqa_rep {G : Hp} {vs : List V} {ds : List PyData} (h : DqAll K G vs ds) : ∀ m : Nat, DqAll K G (List.replicate m vs).flatten (List.replicate m ds).flatten
  | 0 => .nil
  | m + 1 => by
    rw [List.replicate_succ, List.replicate_succ, List.flatten_cons, List.flatten_cons]
    exact dpa_app h (dqa_rep h m)
theorem op2_mulQ : Op2 K (fun x y H Q => rI CMul (fun i j => .int (i * j)) x y H Q ∨ rMulS x y H Q ∨ rRep x y H Q ∨ rRepT K x y H Q ∨ rMulT1 K x y H Q) mulQD := by
  intro dk x y d1 d2 z H G Q s d a b e q
  cases b with
  | int k =>
    cases a with
    | int i =>
      simp only [mulQD] at e
      split at e
      · rename_i hc
        cases e
        exact .inl ⟨i, k, rfl, rfl, by simpa [cMul, CMul] using hc, q _ H G (grow_refl s d) (.int _)⟩
      · cases e
    | str i =>
      simp only [mulQD] at e
      split at e
      · rename_i hc
        simp only [Bool.and_eq_true, decide_eq_true_eq] at hc
        cases e
        exact .inr (.inl ⟨i, k, rfl, rfl, hc.1.1, hc.1.2, hc.2, q _ H G (grow_refl s d) (.str _)⟩)
      · cases e
    | lst h1 a1 =>
      simp only [mulQD] at e
      split at e
      · rename_i hc
        simp only [Bool.and_eq_true, decide_eq_true_eq] at hc
        cases e
        refine .inr (.inr (.inl ⟨_, k, _, rfl, rfl, s _ _ h1, by omega, by omega, ?_, fun p hp => new_lst s d (dqa_rep a1 _) hp q⟩))
        have : k.toNat ≤ 1000 := by omega
        have l := dpa_len a1
        have := Nat.mul_le_mul ((show _ ≤ 1000 from l ▸ hc.2)) this
        exact Nat.le_trans this (by decide)
      · cases e
    | tup h1 a1 =>
      simp only [mulQD] at e
      split at e
      · rename_i hk
        cases e
        subst hk
        exact .inr (.inr (.inr (.inr ⟨_, _, rfl, rfl, st_mono s h1, q _ H G (grow_refl s d) (.tup h1 a1)⟩)))
      split at e
      · rename_i hc
        simp only [Bool.and_eq_true, decide_eq_true_eq, Bool.not_eq_true', List.isEmpty_eq_false_iff] at hc
        cases e
        refine .inr (.inr (.inr (.inl ⟨_, k, _, rfl, rfl, st_mono s h1, fun z => hc.2 ((dqa_nil a1).mp z), hc.1.1.1, hc.1.1.2, by rw [dpa_len a1]; exact hc.1.2, fun p hp => new_tup s d (dqa_rep a1 _) hp q⟩)))
      · cases e
    | _ => cases e
  | _ => cases a <;> cases e
end
end DL
set_option maxRecDepth 100000
set_option maxHeartbeats 2000000
/-! # The data layer: slices with a step, list(zip(..)), index, small dicts, enumerate of a tuple -/
namespace DL
open PySem PySem.Spec L2
section
variable {X : Cx} {F : Fx} {a b c e : Expr} {es : List Expr} {pos p p1 p2 p3 pos2 apos : Pos} {wa wb wc : WE} {wr : WA} {K : PySem.W.Frag}

/-! ### the indices of xs[lo::c] -/
def stepIx (lo : Option Int) (c : Int) (n : Nat) : List Nat := sliceRange (sliceBounds lo none (some c) n).1 (sliceBounds lo none (some c) n).2.1 (sliceBounds lo none (some c) n).2.2
def pick {α : Type} (L : List Nat) (xs : List α) : List α := L.filterMap (xs[·]?)
theorem dqa_pick {G : Hp} {vs : List V} {ds : List PyData} (h : DqAll K G vs ds) : ∀ L : List Nat, DqAll K G (pick L vs) (pick L ds)
  | [] => .nil
  | i :: L => by
    unfold pick
    rw [List.filterMap_cons, List.filterMap_cons]
    cases e : vs[i]? with
    | none =>
      have : ds[i]? = none := by
        rw [List.getElem?_eq_none_iff] at e ⊢
        rw [← dpa_len h]; exact e
      rw [this]
      exact dqa_pick h L
    | some v =>
      obtain ⟨d, hd, dd⟩ := dpa_get h e
      rw [hd]
      exact .cons dd (dqa_pick h L)
theorem vals_pick {vs : List V} {us : List Value} (h : Vals vs us) : ∀ L : List Nat, Vals (pick L vs) (pick L us)
  | [] => .nil
  | i :: L => by
    unfold pick
    rw [List.filterMap_cons, List.filterMap_cons]
    cases e : vs[i]? with
    | none =>
      have : us[i]? = none := by
        rw [List.getElem?_eq_none_iff] at e ⊢
        rw [← h.length]; exact e
      rw [this]
      exact vals_pick h L
    | some v =>
      obtain ⟨u, hu, ru⟩ := h.get e
      rw [hu]
      exact .cons ru (vals_pick h L)
theorem slice_pick (items : Array Value) (lo : Option Int) (c : Int) : slicePick items lo none (some c) = (pick (stepIx lo c items.toList.length) items.toList).toArray := by
  unfold slicePick pick stepIx
  congr 1
  simp
/-- xs[lo::c] of a list -/
def tStepL (K : PySem.W.Frag) (c : Int) (te : TE) (tl : TO) : TE := fun σ H Q => te σ H fun x H1 => tl σ H1 fun lo H2 => ∃ a xs, x = .ref a ∧ SqL K H2 a xs ∧ ∀ p, H2 p = none → Q (.ref p) (upd H2 p (.lst (pick (stepIx lo c xs.length) xs)))
theorem pe_stepL {c : Int} {k : Nat} {lo : Option Expr} {te : TE} {tl : TO} (hc0 : c ≠ 0) (he : PE X e te) (hl : PO X lo tl) : PE X (.Subscript e (.Slice lo none (some (.Constant (.int c) k p1)) p3) pos) (tStepL X.K c te tl) := by
  refine ⟨fun pins s σ H Q I h => ?_⟩
  refine PyProof.Rows.Subscript_ (thn (he.run pins s σ H _ I h) fun v s1 ⟨x, H1, I1, r1, q1⟩ => ?_)
  have hst : PO X (some (.Constant (.int c) k p1)) (tPart (tC (.int c))) := po_some pe_int
  refine wpAny_Slice (thn (hl.run pins s1 σ H1 _ I1 q1) fun vl s2 ⟨l, H2, I2, pl, a, xs, ex, hx, q⟩ => ?_)
  subst ex
  cases r1
  refine thn (po_none.run pins s2 σ H2 (fun o H3 => o = none ∧ H3 = H2) I2 ⟨rfl, rfl⟩) fun vu s3 ⟨u, H3, I3, pu, eu, e3⟩ => ?_
  subst eu e3
  refine thn (hst.run pins s3 σ H3 (fun o H4 => o = some c ∧ H4 = H3) I3 ⟨c, rfl, rfl, rfl⟩) fun vs s4 ⟨o, H4, I4, ps, eo, e4⟩ => ?_
  subst eo e4
  have I5 : Inv X pins σ H4 { s4 with heap := s4.heap.push { cls := .type "slice", data := .fields #[vl, vu, vs] } } := I4.kept (t' := s4.toks) fun b ob q => Heap.get?_push_of_some _ q
  obtain ⟨its, r, ht, hz⟩ := I5.list hx
  have hlen := r.length
  show wpAny (model X.prog X.w) X.A (PyProof.Rows.subscriptTail e (.Slice lo none (some (.Constant (.int c) k p1)) p3) (.ref a) (.ref s4.heap.objs.size)) (EP X pins σ Q) X.xe { s4 with heap := s4.heap.push { cls := .type "slice", data := .fields #[vl, vu, vs] } }
  refine PyProof.Rows.tail_any (ops := [.ref a, .ref s4.heap.objs.size]) ht.isList.typeIs (PySem.slot_list_getitem.lookup) ?_ (by with_unfolding_all rfl)
  refine wpAny_getItem_list_slice ht.isList (Heap.IsSliceOf.new _ vl vu vs) pl pu ps (by simpa using hc0) ?_ (by rw [List.size_toArray]; omega)
  rw [slice_pick]
  have hp := vals_pick r (stepIx l c xs.length)
  rw [show (its.toArray.toList : List Value) = its from rfl, ← hlen]
  refine ⟨.ref _, _, I5.laid (t' := s4.toks) (o := .lst (pick (stepIx l c xs.length) xs)) (fun b ob q => Heap.get?_push_of_some _ q) (Nat.le_refl _) ?_, rfl, q _ (I5.hok.fresh (Nat.le_refl _))⟩
  refine ⟨?_, _, 0, hp, Heap.get?_push_size _ rfl⟩
  have := slicePick_size_le its.toArray l none (some c)
  rw [slice_pick] at this
  rw [hp.length]
  have e2 : (pick (stepIx l c its.length) its).length ≤ its.length := by simpa using this
  rw [hlen]
  omega
def wStep (c : Int) (wa : WE) (wl : WO) : WE := fun ρ Q => wa ρ fun x => wl ρ fun lo => ∃ xs, x = .list xs ∧ Q (.list (pick (stepIx lo c xs.length) xs))
theorem se_step {c : Int} {k : Nat} {lo : Option Expr} {wl : WO} (hc0 : c ≠ 0) (he : SE X F a wa) (hl : SO X F lo wl) : SE X F (.Subscript a (.Slice lo none (some (.Constant (.int c) k p1)) p3) pos) (wStep c wa wl) := by
  refine ⟨pe_imp (pe_stepL hc0 he.pe hl.po) fun σ H Q q => ?_, fun ρ Q Q' k q => he.mono ρ _ _ (fun x q => hl.mono ρ _ _ (fun lo ⟨xs, e, q⟩ => ⟨xs, e, k _ q⟩) q) q⟩
  obtain ⟨ρ, G, ow, R, q⟩ := q
  refine ⟨ρ, G, ow, R, he.mono ρ _ _ (fun x q v H1 G1 g1 d1 => ?_) q⟩
  have R1 := R.grow g1
  refine ⟨ρ, G1, ow, R1, hl.mono ρ _ _ (fun lo q' H2 G2 g2 => ?_) q⟩
  obtain ⟨xs, rfl, q'⟩ := q'
  have R2 := R1.grow g2
  cases d1 with
  | lst h1 a1 =>
    refine ⟨_, _, rfl, .inl (.inl (R2.gr.sub _ _ (g2.gg _ _ h1))), fun p hp => ?_⟩
    have a2 := dpa_mono g2.gg _ _ a1
    rw [dpa_len a1]
    exact new_lst R2.gr.sub R2.dkok (dqa_pick a2 _) hp fun v' H3 G3 g3 d3 => q' v' H3 G3 ((g1.trans g2 R.dkok).trans g3 R.dkok) d3
/-! ### text[::-1] -/
def revStr (z : Str) : Str := ⟨z.cps.toList.reverse.toArray⟩
theorem rev_str (z : Str) (t : Tok) (u : Tok) : sliceMade z t none none (some (-1, u)) = .str (revStr z) := by
  unfold sliceMade slicePicked
  rw [if_neg (by simp)]
  congr 1
  unfold revStr Builtin.Str.strSliceIndices
  congr 1
  show ((sliceRange ((z.cps.size : Int) - 1) (-1) (-1)).filterMap (z.cps[·]?)).toArray = _
  rw [PySem.W.krv_sliceRange, PySem.W.krv_range, List.filterMap_reverse, PySem.W.krv_all]
def tRevS (te : TE) : TE := fun σ H Q => te σ H fun x H1 => ∃ z, x = .str z ∧ z.length ≤ sizeLine ∧ Q (.str (revStr z)) H1
theorem pe_revStr {te : TE} {k : Nat} (he : PE X e te) : PE X (.Subscript e (.Slice none none (some (.UnaryOp .USub (.Constant (.int 1) k p1) p2)) p3) pos) (tRevS te) := by
  refine ⟨fun pins s σ H Q I h => ?_⟩
  refine PyProof.Rows.Subscript_ (thn (he.run pins s σ H _ I h) fun v s1 ⟨x, H1, I1, r1, q1⟩ => ?_)
  obtain ⟨z, ex, hz, q⟩ := q1
  subst ex
  obtain ⟨t, rfl⟩ := r1
  have hst : PO X (some (.UnaryOp .USub (.Constant (.int 1) k p1) p2)) (tPart (tUn (rU fun i => .int (-i)) (tC (.int 1)))) := po_some (pe_un un_neg pe_int)
  refine wpAny_Slice (thn (po_none.run pins s1 σ H1 (fun o H2 => o = none ∧ H2 = H1) I1 ⟨rfl, rfl⟩) fun vl s2 ⟨l, H2, I2, pl, el, e2⟩ => ?_)
  subst el e2
  refine thn (po_none.run pins s2 σ H2 (fun o H3 => o = none ∧ H3 = H2) I2 ⟨rfl, rfl⟩) fun vu s3 ⟨u, H3, I3, pu, eu, e3⟩ => ?_
  subst eu e3
  refine thn (hst.run pins s3 σ H3 (fun o H4 => o = some (-1) ∧ H4 = H3) I3 ⟨1, rfl, -1, rfl, rfl, rfl⟩) fun vs s4 ⟨o, H4, I4, ps, eo, e4⟩ => ?_
  subst eo e4
  cases pl
  cases pu
  cases ps with
  | int i t2 =>
    have I5 : Inv X pins σ H4 { s4 with heap := s4.heap.push { cls := .type "slice", data := .fields #[Value.none, Value.none, .int (-1) t2] } } := I4.kept (t' := s4.toks) fun b ob q => Heap.get?_push_of_some _ q
    show wpAny (model X.prog X.w) X.A (PyProof.Rows.subscriptTail e (.Slice none none (some (.UnaryOp .USub (.Constant (.int 1) k p1) p2)) p3) (.str z t) (.ref s4.heap.objs.size)) (EP X pins σ Q) X.xe { s4 with heap := s4.heap.push { cls := .type "slice", data := .fields #[Value.none, Value.none, .int (-1) t2] } }
    refine PyProof.Rows.tail_any (ops := [.str z t, .ref s4.heap.objs.size]) (typeIs_str _ z t) PySem.F.slot_str_getitem.lookup ?_ (by with_unfolding_all rfl)
    refine PySem.wpAny_getItem_str_slice (l := none) (u := none) (st := some (-1, t2)) ⟨_, Heap.get?_push_size _ rfl, rfl, rfl⟩ (by rfl) ?_
    rw [rev_str]
    refine ⟨?_, .str (revStr z), H4, I5.tok _, ⟨_, rfl⟩, q⟩
    show (revStr z).cps.size ≤ sizeLine
    have : (revStr z).cps.size = z.cps.size := by simp [revStr]
    rw [this]; exact hz
def revD : PyData → Option PyData
  | .str z => if z.length ≤ sizeLine then some (.str (revStr z)) else none
  | _ => none
theorem se_revStr {k : Nat} (he : SE X F a wa) : SE X F (.Subscript a (.Slice none none (some (.UnaryOp .USub (.Constant (.int 1) k p1) p2)) p3) pos) (w1 revD wa) := by
  refine ⟨pe_imp (pe_revStr he.pe) fun σ H Q q => ?_, w1_mono he.mono⟩
  obtain ⟨ρ, G, ow, R, q⟩ := q
  refine ⟨ρ, G, ow, R, he.mono ρ _ _ (fun x q v H1 G1 g1 d1 => ?_) q⟩
  obtain ⟨y, e, q⟩ := q
  cases d1 with
  | str z =>
    simp only [revD] at e
    split at e
    · cases e
      exact ⟨z, rfl, by assumption, q _ H1 G1 g1 (.str _)⟩
    · cases e
  | _ => cases e
/-- list[::-1] -/
def wRevL (wa : WE) : WA := fun ρ Q => wa ρ fun x => ∃ xs, x = .list xs ∧ Q xs.reverse
theorem sl_revL {k : Nat} (he : SE X F a wa) : SEL X F (.Subscript a (.Slice none none (some (.UnaryOp .USub (.Constant (.int 1) k p1) p2)) p3) pos) (wRevL wa) := by
  refine ⟨pe_imp (pe_revL he.pe) fun σ H Q q => ?_, fun ρ Q Q' k q => he.mono ρ _ _ (fun x ⟨xs, e, q⟩ => ⟨xs, e, k _ q⟩) q⟩
  obtain ⟨ρ, G, ow, R, q⟩ := q
  refine ⟨ρ, G, ow, R, he.mono ρ _ _ (fun x q v H1 G1 g1 d1 => ?_) q⟩
  obtain ⟨xs, rfl, q⟩ := q
  have R1 := R.grow g1
  cases d1 with
  | @lst _ us _ h1 a1 =>
    refine ⟨_, _, rfl, .inl (.inl (R1.gr.sub _ _ h1)), fun l hl => ?_⟩
    have g2 := Grow.newH (o := .lst us.reverse) R1.gr.sub R1.dkok hl
    have g0 : G1 l = none := by
      cases e : G1 l with
      | none => rfl
      | some o => rw [g1.sub l o e] at hl; cases hl
    exact q l _ _ _ (g1.trans g2 R.dkok) (g1.th R.dkok hl) g0 upd_same (dpa_rev a1)

/-! ### index of a text in a list of texts -/
def indexD : PyData → List PyData → Option PyData
  | .list ds, [.str y] => match strsOf ds with
    | some xs => if y ∈ xs then some (.int (xs.idxOf y)) else none
    | none => none
  | _, _ => none
end
end DL
set_option maxRecDepth 100000
set_option maxHeartbeats 4000000
/-! # enumerate(tuple) -/
namespace DE
open PySem PySem.Spec
open AutoSeq1 (wpAny_loadPart')
theorem new_enumT (l : Addr) (items : Array Value) (n : Nat) (dct : Option Addr) (sl : Array (Option Value)) :
    Meets (Builtin.«enumerate.__new__» ⟨[.type "enumerate", .ref l], []⟩) (fun _ R s => s.heap.get? l = some { cls := .type "tuple", dict := dct, data := .seq items n, slots := sl } ∧
      R (.ok (.ret (.ref (s.heap.push { cls := .type "tuple_iterator", data := .fields #[.ref l, .int 0 0] }).objs.size)))
        { s with heap := (s.heap.push { cls := .type "tuple_iterator", data := .fields #[.ref l, .int 0 0] }).push { cls := .type "enumerate", data := .fields #[.none, .bool false, .ref s.heap.objs.size, rawInt 0, .none, .none] } }) :=
  .of_wp fun prog w A R s h => by
    obtain ⟨hp, g, d, tk, os⟩ := s; obtain ⟨hl, h⟩ := h
    have hsub := sub_enumerate
    have hL : Heap.IsTuple (Shared.heap ⟨hp, g, d, tk, os⟩) l items := ⟨_, hl, rfl, n, rfl⟩
    wp_walk using wpAny_loadPart' hl
    refine wpAny_stack_any fun st => wpAny_pure ?_
    split
    · rename_i c _ _ _ _ _
      cases (c == Value.type "enumerate")
      · wp_walk using wpAny_loadPart' hl, wpAny_pyIter_tuple hL
        exact ⟨_, rfl, h⟩
      · wp_walk using wpAny_loadPart' hl, wpAny_pyIter_tuple hL
        exact ⟨_, rfl, h⟩
    · wp_walk using wpAny_loadPart' hl, wpAny_pyIter_tuple hL
      exact ⟨_, rfl, h⟩
section
variable {prog : Program} {w : World} {A : Around} {E : Value → Shared → Prop} {s : Shared}
theorem call_enumT {l : Addr} {items : Array Value} {Q : Value → Shared → Prop} (hL : s.heap.IsTuple l items)
    (h : ∀ h', IsEnum h' (s.heap.objs.size + 1) s.heap.objs.size 0 .none → h'.IsTupleIter s.heap.objs.size l 0 → h'.objs.size = s.heap.objs.size + 2 →
      (∀ b o, s.heap.get? b = some o → h'.get? b = some o) → Q (.ref (s.heap.objs.size + 1)) { s with heap := h' }) :
    wpAny (model prog w) A (call (.type "enumerate") [.ref l]) Q E s := by
  obtain ⟨⟨c, dct, dt, sl⟩, hl, hc, n, hd⟩ := hL
  replace hc : c = .type "tuple" := hc
  replace hd : dt = .seq items n := hd
  subst hc hd
  refine callType_new F.called_enumerate (by decide) (F.typeCall_enumerate_1 _) (F.newCall_enumerate_1 _) (fun obj => F.args_object_init_2 obj _) F.entry_enumerate_new
    (new_enumT l items n dct sl) ⟨hl, ?_⟩
  have hz : (s.heap.push { cls := .type "tuple_iterator", data := .fields #[.ref l, .int 0 0] }).objs.size = s.heap.objs.size + 1 := Heap.size_push ..
  show _ ∧ _
  rw [hz]
  have he : IsEnum ((s.heap.push { cls := .type "tuple_iterator", data := .fields #[.ref l, .int 0 0] }).push
      { cls := .type "enumerate", data := .fields #[.none, .bool false, .ref s.heap.objs.size, rawInt 0, .none, .none] }) (s.heap.objs.size + 1) s.heap.objs.size 0 .none := by
    have := Heap.get?_push_size (s.heap.push { cls := .type "tuple_iterator", data := .fields #[.ref l, .int 0 0] })
      (o := { cls := .type "enumerate", data := .fields #[.none, .bool false, .ref s.heap.objs.size, rawInt 0, .none, .none] }) rfl
    rw [hz] at this; exact this
  refine ⟨⟨_, he, rfl⟩, h _ he ⟨_, Heap.get?_push_of_some _ (Heap.get?_push_size _ rfl), rfl, rfl⟩ (by rw [Heap.size_push, hz]) fun b o x => Heap.get?_push_of_some _ (Heap.get?_push_of_some _ x)⟩
end
end DE
namespace DL
open PySem PySem.Spec L2
/-- the tuple at a, each item in a new pair with its place -/
def IteT (K : PySem.W.Frag) (a : Addr) : It :=
  ⟨fun i H => ∃ (xs : List V) (x : V), SqT K H a xs ∧ xs[i]? = some x, fun i H v H' => ∃ T x, v = .ref T ∧ H T = none ∧ H' = upd H T (.tup [.int (i : Nat), x]) ∧ ∀ xs, SqT K H a xs → xs[i]? = some x, fun i H => ∃ xs : List V, SqT K H a xs ∧ xs.length = i⟩
theorem turn_enumT {P : Program} {w : World} {K : PySem.W.Frag} {elts : List Expr} {kk : Nat} {tpos : Pos} (a e it : Addr) :
    Turn P w K (.Tuple elts kk tpos) (IteT K a) [e, it] e (fun i h => (∃ old, IsEnum h e it ((i : Nat) : Int) old) ∧ h.IsTupleIter it a i ∧ e ≠ it ∧ a ≠ it ∧ a ≠ e) where
  mem := by simp
  obj := fun i h st b hb => by
    obtain ⟨⟨old, he⟩, ⟨o, ho, hc, hd⟩, _⟩ := st
    have e' : b = e ∨ b = it := by simpa using hb
    rcases e' with z | z
    · rw [z]; exact ⟨_, he, fun v q => nomatch q⟩
    · rw [z]; exact ⟨o, ho, fun v q => by rw [hd] at q; cases q⟩
  keep := fun i h h' st k => let ⟨⟨old, he⟩, hi, hne⟩ := st; ⟨⟨old, k e (by simp) _ he⟩, hi.at fun o q => k it (by simp) o q, hne⟩
  item := by
    intro X hP hw hK hc i pins s σ H E I hf st hg
    subst hP hw hK
    obtain ⟨⟨old, he⟩, hit, hne, hai, hae⟩ := st
    obtain ⟨xs, x, hq, hx⟩ := hg
    obtain ⟨its, rv, p, hz⟩ := I.tuple hq
    obtain ⟨u, hu, ru⟩ := rv.get hx
    have hT : s.heap.IsTuple a its.toArray := p
    have hel : e < s.heap.objs.size := Heap.lt_size he
    have hil : it < s.heap.objs.size := by obtain ⟨_, q, _⟩ := hit; exact Heap.lt_size q
    have hlt : i < its.toArray.size := by
      obtain ⟨z, _⟩ := List.getElem?_eq_some_iff.mp hu
      simpa using z
    refine wpAny_pyNext_enum_itemD (PySem.Draws.tuple (show X.A.in1.handled = none from I.ok.hd hc) it a hai its.toArray) he ⟨hit, hT⟩ hlt hne (by simp [Ne.symm hae, hne]) fun y h' tk hy ho hst hTn hsz hk => ?_
    have ey : y = u := by
      have : its.toArray[i]? = some u := by simpa using hu
      rw [this] at hy; exact (Option.some.inj hy).symm
    subst ey
    refine ⟨_, rfl, wpAny_letOwnedTupleGo_enum (s := { s with heap := h', toks := tk + 1 }) ho fun h'' he' sb => ?_⟩
    have hT2 : h''.get? s.heap.objs.size = some { cls := .type "tuple", data := .seq #[.int i tk, y] } := (sb.2 _ (Nat.ne_of_gt hel)).trans hTn
    have new : ObjOk X.prog X.w (upd H s.heap.objs.size (.tup [.int (i : Nat), x])) h'' s.heap.objs.size (.tup [.int (i : Nat), x]) :=
      ⟨by show 2 ≤ sizeLine; decide, [.int i tk, y], .cons ⟨_, rfl⟩ (.cons ru .nil), ⟨_, hT2, rfl, _, rfl⟩⟩
    have I1 : Inv X pins σ (upd H s.heap.objs.size (.tup [.int (i : Nat), x])) { s with heap := h'', toks := tk + 1 } :=
      I.turnedNew (ch := [e, it]) (fun b ob hb q => (sb.2 b (fun z => hb (by simp [z]))).trans (hk b ob (fun z => hb (by simp [z])) (fun z => hb (by simp [z])) q)) hf (Nat.le_refl _) new
    refine ⟨.ref s.heap.objs.size, _, I1, rfl, ⟨_, x, rfl, I.hok.fresh (Nat.le_refl _), rfl, fun ys hy => by rw [I.tuple_inj hy hq]; exact hx⟩, ⟨⟨y, ?_⟩, hst.1.at fun o q => (sb.2 it (Ne.symm hne)).trans q, hne, hai, hae⟩, fun b hb => ?_⟩
    · have e1 : ((i + 1 : Nat) : Int) = (i : Int) + 1 := by omega
      rw [e1]; exact he'
    · have hb' : b < s.heap.objs.size := by
        have e' : b = e ∨ b = it := by simpa using hb
        rcases e' with z | z
        · rw [z]; exact hel
        · rw [z]; exact hil
      rw [upd_ne (Nat.ne_of_lt hb')]
      exact (hf b hb).1
  done := by
    intro X hP hw hK hc i pins s σ H E I hf st hg
    subst hP hw hK
    obtain ⟨⟨old, he⟩, hit, hne, hai, hae⟩ := st
    obtain ⟨xs, hq, hx⟩ := hg
    obtain ⟨its, rv, p, hz⟩ := I.tuple hq
    obtain ⟨f0, f1, f2, f3, f4, f5⟩ := hf it (by simp)
    have hl := rv.length
    have hT : s.heap.IsTuple a its.toArray := p
    have D := PySem.Draws.tuple (prog := X.prog) (w := X.w) (A := X.A.in1) (I.ok.hd hc) it a hai its.toArray
    have hi : i = its.toArray.size := by rw [List.size_toArray]; omega
    subst hi
    exact wpAny_pyNext_enum_endD D he ⟨hit, hT⟩ fun h' eb => ⟨rfl, I.turned (t' := s.toks) (fun b o hb q => eb b o hb q) f0 f1 f3 f4 f5⟩
  self := fun A i s Q E st h => let ⟨⟨_, he⟩, _⟩ := st; wpAny_pyIter_enum he h
def iEnumT (K : PySem.W.Frag) (ta : TA) : TI := fun σ H R => ta σ H fun vs H1 => ∃ a xs, vs = [.ref a] ∧ SqT K H1 a xs ∧ R (IteT K a) H1
section
variable {X : Cx} {F : Fx} {e : Expr} {ta : TA} {wa : WE} {p pos tpos : Pos} {elts : List Expr} {kk : Nat}
theorem pi_enumT (hg : Gl X "enumerate") (hm : X.mg "enumerate" = none) (ha : PA X [e] ta) (hs : starEach [e] X.env = [(false, eval e X.env)] := by rfl) :
    PI X (.Tuple elts kk tpos) (.Call (.Name "enumerate" p) [e] [] pos) (iEnumT X.K ta) := by
  refine ⟨fun pins s σ H R I h => ?_⟩
  refine PyProof.Rows.Call_ (ld_blt I hg hm PyProof.Rows.boot_enumerate (PyProof.Rows.callWith_type1 (thn (ha.run pos pins s σ H _ I h) fun us s1 ⟨vs, H1, I1, r1, q1⟩ => ?_) hs rfl))
  obtain ⟨a, xs, ex, hq, q⟩ := q1
  subst ex
  cases r1 with
  | cons r rr =>
    cases rr
    cases r
    obtain ⟨its, rv, p', hz⟩ := I1.tuple hq
    have hT : s1.heap.IsTuple a its.toArray := p'
    have al : a < s1.heap.objs.size := by obtain ⟨o, ho, _⟩ := hT; exact Heap.lt_size ho
    refine DE.call_enumT hT fun h' he hit hsz hk => wpAny_pyIter_enum he ?_
    have I2 : Inv X pins σ H1 { s1 with heap := h' } := I1.kept (t' := s1.toks) hk
    refine ⟨s1.heap.objs.size + 1, [s1.heap.objs.size + 1, s1.heap.objs.size], _, _, H1, rfl, I2, turn_enumT a (s1.heap.objs.size + 1) s1.heap.objs.size, ⟨⟨.none, he⟩, hit, Nat.succ_ne_self _, Nat.ne_of_lt al, Nat.ne_of_lt (Nat.lt_succ_of_lt al)⟩, fun b hb => ?_, q⟩
    have e' : b = s1.heap.objs.size + 1 ∨ b = s1.heap.objs.size := by simpa using hb
    have hle : s1.heap.objs.size ≤ b := by
      rcases e' with z | z
      · rw [z]; exact Nat.le_add_right _ _
      · rw [z]; exact Nat.le_refl _
    exact I1.fpOk hle (I1.hok.fresh hle)
theorem wd_enumT {K : PySem.W.Frag} {dk : DK} {G1 : Hp} {a : Addr} {vs : List V} {xs : List PyData} (h : SqT K G1 a vs) (ha : DqAll K G1 vs xs) : WalkD K dk (IteT K a) G1 (enumD xs) := by
  have q : ∀ {H G : Hp}, Same G1 G → Same G H → SqT K H a vs := fun s1 s2 => st_mono s2 (st_mono s1 h)
  have hl : (enumD xs).length = vs.length := by rw [dpa_len ha]; simp [enumD]
  refine ⟨fun i H G hi s1 s2 => ⟨vs, vs[i]'(by omega), q s1 s2, by simp [show i < vs.length by omega]⟩, fun H G s1 s2 => ⟨vs, q s1 s2, by rw [hl]⟩, fun i H G x H' hi s1 s2 d y => ?_⟩
  obtain ⟨T, v, h1, h2, h3, h5⟩ := y
  obtain ⟨e, he, de⟩ := dpa_get ha (h5 vs (q s1 s2))
  obtain ⟨G', g, dd⟩ := pair_of s2 d (.int (i : Nat)) (dp_mono s1 _ _ de) ⟨T, h1, h2, h3⟩
  exact ⟨G', _, g, by simp [enumD, List.getElem?_zipIdx, he], dd⟩
def wEnT (wa : WE) : WA := fun ρ Q => wa ρ fun d => ∃ xs, d = .tuple xs ∧ Q (enumD xs)
theorem si_enumT (hg : Gl X "enumerate") (hm : X.mg "enumerate" = none) (h : SE X F e wa) (hs : starEach [e] X.env = [(false, eval e X.env)] := by rfl) : SI X F (.Tuple elts kk tpos) (.Call (.Name "enumerate" p) [e] [] pos) (wEnT wa) := by
  refine ⟨pi_imp (pi_enumT hg hm (pa_cons h.pe pa_nil hs) hs) fun σ H R q => ?_, fun ρ Q Q' k q => h.mono ρ _ _ (fun d ⟨xs, e, q⟩ => ⟨xs, e, k _ q⟩) q⟩
  obtain ⟨ρ, G, ow, rp, q⟩ := q
  refine ⟨ρ, G, ow, rp, h.mono ρ _ _ (fun d q v H1 G1 g1 d1 => ?_) q⟩
  obtain ⟨xs, rfl, q⟩ := q
  cases d1 with
  | tup h1 a1 => exact ⟨_, _, rfl, st_mono g1.sub h1, q _ H1 G1 g1 (wd_enumT h1 a1)⟩
end
end DL
set_option maxRecDepth 100000
set_option maxHeartbeats 4000000
/-! # The data layer: list(zip(..)), index, small dicts -/
namespace DL
open PySem PySem.Spec L2
abbrev Trip := Addr × V × V
def lays (H : Hp) : List Trip → Hp
  | [] => H
  | t :: r => lays (upd H t.1 (.tup [t.2.1, t.2.2])) r
theorem lays_out {H : Hp} {b : Addr} : ∀ {ts : List Trip}, (∀ t ∈ ts, t.1 ≠ b) → lays H ts b = H b
  | [], _ => rfl
  | t :: r, h => by
    show lays (upd H t.1 _) r b = _
    rw [lays_out fun u hu => h u (List.mem_cons_of_mem _ hu), upd_ne (Ne.symm (h t List.mem_cons_self))]
theorem lays_grow {dk : DK} : ∀ {ts : List Trip} {H G : Hp}, Same G H → DkOk dk H G → (ts.map (·.1)).Nodup → (∀ t ∈ ts, H t.1 = none) → Grow dk H G (lays H ts) (lays G ts)
  | [], H, G, s, d, _, _ => Grow.refl s d
  | t :: r, H, G, s, d, nd, hn => by
    have g := Grow.new (o := .tup [t.2.1, t.2.2]) s d (hn t List.mem_cons_self)
    rw [List.map_cons, List.nodup_cons] at nd
    refine g.trans (lays_grow g.sub g.dk nd.2 fun u hu => ?_) d
    have : u.1 ≠ t.1 := fun e => nd.1 (List.mem_map.mpr ⟨u, hu, e⟩)
    rw [upd_ne this]; exact hn u (List.mem_cons_of_mem _ hu)
theorem lays_at : ∀ {ts : List Trip} {H : Hp} {t : Trip}, (ts.map (·.1)).Nodup → t ∈ ts → lays H ts t.1 = some (.tup [t.2.1, t.2.2])
  | t0 :: r, H, t, nd, h => by
    rw [List.map_cons, List.nodup_cons] at nd
    show lays (upd H t0.1 _) r t.1 = _
    rcases List.mem_cons.mp h with e | h
    · subst e
      rw [lays_out fun u hu e => nd.1 (List.mem_map.mpr ⟨u, hu, e⟩), upd_same]
    · exact lays_at nd.2 h
theorem lays_hok {P : Program} {w : World} {h' : Heap} : ∀ {ts : List Trip} {H : Hp}, HOk P w H h' → (ts.map (·.1)).Nodup → (∀ t ∈ ts, H t.1 = none) → (∀ t ∈ ts, ∃ x y, IsPair h' t.1 x y ∧ RelV t.2.1 x ∧ RelV t.2.2 y) → HOk P w (lays H ts) h'
  | [], _, k, _, _, _ => k
  | t :: r, H, k, nd, hn, hp => by
    rw [List.map_cons, List.nodup_cons] at nd
    obtain ⟨x, y, pr, rx, ry⟩ := hp t List.mem_cons_self
    refine lays_hok (ts := r) (k.laidN (a := t.1) (o := .tup [t.2.1, t.2.2]) (fun _ _ q => q) (hn t List.mem_cons_self) ⟨by show 2 ≤ sizeLine; decide, [x, y], .cons rx (.cons ry .nil), ⟨_, pr, rfl, _, rfl⟩⟩) nd.2 (fun u hu => ?_) fun u hu => hp u (List.mem_cons_of_mem _ hu)
    have : u.1 ≠ t.1 := fun e => nd.1 (List.mem_map.mpr ⟨u, hu, e⟩)
    rw [upd_ne this]; exact hn u (List.mem_cons_of_mem _ hu)
section
variable {X : Cx} {F : Fx} {a b c e : Expr} {es : List Expr} {pos p p1 p2 p3 pos2 apos : Pos} {wa wb wc : WE} {wr : WA} {K : PySem.W.Frag}
/-- the trips that came, by the values at both places -/
theorem trips_of {h' : Heap} {n0 : Nat} {vs us : List V} {xs ys acc : Array Value} (rv : Vals vs xs.toList) (ru : Vals us ys.toList) (hn : acc.size = min xs.size ys.size) (P : DZ.PairsIn h' n0 xs ys acc) :
    ∃ ts : List Trip, acc.toList = ts.map (fun t => Value.ref t.1) ∧ (ts.map (·.1)).Nodup ∧ (∀ t ∈ ts, n0 ≤ t.1) ∧ (∀ t ∈ ts, ∃ x y, IsPair h' t.1 x y ∧ RelV t.2.1 x ∧ RelV t.2.2 y) ∧ ts.map (·.2) = vs.zip us := by
  have lx : vs.length = xs.size := by rw [rv.length, Array.length_toList]
  have ly : us.length = ys.size := by rw [ru.length, Array.length_toList]
  have ad : ∀ j, j < acc.size → ∃ t : Trip, acc[j]? = some (.ref t.1) ∧ n0 ≤ t.1 ∧ (∃ x y, IsPair h' t.1 x y ∧ RelV t.2.1 x ∧ RelV t.2.2 y) ∧ vs[j]? = some t.2.1 ∧ us[j]? = some t.2.2 := fun j hj => by
    obtain ⟨T, x, y, e, hT, pr, hx, hy⟩ := P.2 j acc[j] (by simp [hj])
    have hjv : j < vs.length := by omega
    have hju : j < us.length := by omega
    obtain ⟨x', ex, rx⟩ := rv.get (List.getElem?_eq_getElem hjv)
    obtain ⟨y', ey, ry⟩ := ru.get (List.getElem?_eq_getElem hju)
    rw [Array.getElem?_toList] at ex ey
    rw [hx] at ex; rw [hy] at ey
    cases ex; cases ey
    exact ⟨(T, vs[j], us[j]), by rw [← e]; simp [hj], hT, ⟨x, y, pr, rx, ry⟩, List.getElem?_eq_getElem hjv, List.getElem?_eq_getElem hju⟩
  classical
  let f : Nat → Trip := fun j => if hj : j < acc.size then Classical.choose (ad j hj) else (0, .non, .non)
  have fj : ∀ j (hj : j < acc.size), acc[j]? = some (.ref (f j).1) ∧ n0 ≤ (f j).1 ∧ (∃ x y, IsPair h' (f j).1 x y ∧ RelV (f j).2.1 x ∧ RelV (f j).2.2 y) ∧ vs[j]? = some (f j).2.1 ∧ us[j]? = some (f j).2.2 := fun j hj => by
    have : f j = Classical.choose (ad j hj) := by show (if hj : j < acc.size then _ else _) = _; rw [dif_pos hj]
    rw [this]
    exact Classical.choose_spec (ad j hj)
  refine ⟨(List.range acc.size).map f, ?_, ?_, ?_, ?_, ?_⟩
  · refine List.ext_getElem? fun j => ?_
    rw [Array.getElem?_toList, List.map_map, List.getElem?_map]
    by_cases hj : j < acc.size
    · rw [List.getElem?_range hj, (fj j hj).1]; rfl
    · rw [Array.getElem?_eq_none (by omega), List.getElem?_eq_none (by simp; omega)]; rfl
  · rw [List.map_map]
    refine List.pairwise_map.mpr (List.Pairwise.imp_of_mem (R := fun i j => i ≠ j) (fun {i j} hi hj ne e => ne ?_) List.nodup_range)
    have hi := List.mem_range.mp hi
    have hj := List.mem_range.mp hj
    exact P.1 i j (.ref (f i).1) (fj i hi).1 (by rw [(fj j hj).1]; exact congrArg (fun z => some (Value.ref z)) e.symm)
  · intro t ht
    obtain ⟨j, hj, rfl⟩ := List.mem_map.mp ht
    exact (fj j (List.mem_range.mp hj)).2.1
  · intro t ht
    obtain ⟨j, hj, rfl⟩ := List.mem_map.mp ht
    exact (fj j (List.mem_range.mp hj)).2.2.1
  · refine List.ext_getElem? fun j => ?_
    rw [List.map_map, List.getElem?_map]
    by_cases hj : j < acc.size
    · rw [List.getElem?_range hj]
      obtain ⟨_, _, _, h1, h2⟩ := fj j hj
      show some (f j).2 = _
      symm
      rw [List.getElem?_zip_eq_some]
      exact ⟨h1, h2⟩
    · rw [List.getElem?_eq_none (by simp; omega), List.getElem?_eq_none (by rw [List.length_zip]; omega)]; rfl
theorem vals_trips : ∀ ts : List Trip, Vals (ts.map fun t => V.ref t.1) (ts.map fun t => Value.ref t.1)
  | [] => .nil
  | t :: r => .cons rfl (vals_trips r)
theorem in7 {b n x y : Nat} (h : b = n + 4 ∨ b = n + 2 ∨ b = n + 3 ∨ b = n ∨ b = n + 1 ∨ b = x ∨ b = y) (hx : x < n) (hy : y < n) : b < n + 5 := by omega
theorem in4 {b n : Nat} (h : b = n + 4 ∨ b = n + 3 ∨ b = n ∨ b = n + 1) (hb : b < n) : False := by omega
theorem ne_big {t n m : Nat} (h : m + 1 ≤ t) (hn : n ≤ m) : n ≤ t ∧ t ≠ m := by omega
theorem ne_old {b n m : Nat} (h : b < n) (hm : n ≤ m) : b ≠ m := by omega
theorem ne_old2 {t b m n : Nat} (h : m + 1 ≤ t) (hb : b < n) (hm : n ≤ m) : t ≠ b := by omega
/-- list(zip(a, b)), both lists -/
def tZipL (K : PySem.W.Frag) (ta : TA) : TE := fun σ H Q => ta σ H fun vs H1 => ∃ a b xs ys, vs = [.ref a, .ref b] ∧ SqL K H1 a xs ∧ SqL K H1 b ys ∧ ∀ (ts : List Trip) S, (ts.map (·.1)).Nodup → (∀ t ∈ ts, H1 t.1 = none ∧ t.1 ≠ S) → H1 S = none → ts.map (·.2) = xs.zip ys → Q (.ref S) (upd (lays H1 ts) S (.lst (ts.map fun t => .ref t.1)))
theorem pe_zipL {ta : TA} (hc : X.calm = true) (hgl : Gl X "list") (hml : X.mg "list" = none) (hgz : Gl X "zip") (hmz : X.mg "zip" = none) (ha : PA X [a, b] ta)
    (hs : starEach [a, b] X.env = (false, eval a X.env) :: starEach [b] X.env := by rfl) (hpl : (backTo pos2 (starEach [b] X.env)).any (·.1) = false := by rfl)
    (hs2 : starEach [.Call (.Name "zip" p2) [a, b] [] pos2] X.env = (false, eval (.Call (.Name "zip" p2) [a, b] [] pos2) X.env) :: starEach [] X.env := by rfl) :
    PE X (.Call (.Name "list" p1) [.Call (.Name "zip" p2) [a, b] [] pos2] [] pos) (tZipL X.K ta) := by
  refine ⟨fun pins s σ H Q I h => ?_⟩
  refine PyProof.Rows.Call_ (ld_blt I hgl hml PyProof.Rows.boot_list (PyProof.Rows.callWith_type1 (PyProof.Rows.args_cons (PyProof.Rows.Call_ (ld_blt I hgz hmz PyProof.Rows.boot_zip (PyProof.Rows.callWith_type1 (thn (ha.run pos2 pins s σ H _ I h) fun us s1 ⟨vs, H1, I1, r1, q1⟩ => ?_) hs hpl))) hs2) hs2 rfl))
  obtain ⟨a, b, xs, ys, ex, hqx, hqy, q⟩ := q1
  subst ex
  cases r1 with
  | cons r rr =>
    cases rr with
    | cons r' rr =>
      cases rr
      cases r
      cases r'
      obtain ⟨its, rv, p1, hz1⟩ := I1.list hqx
      obtain ⟨its2, rv2, p2, hz2⟩ := I1.list hqy
      have la : a < s1.heap.objs.size := p1.lt
      have lb : b < s1.heap.objs.size := p2.lt
      refine call_zip_2 p1.isList p2.isList fun h' hz hTI hTO h1 h2 hsz hk => PyProof.Rows.args_nil ?_
      have L : ∀ {x k n : Nat}, x < n → x ≠ n + k := fun h => by omega
      refine DZ.call_list_zip (s := { s1 with heap := h' }) (xs := its.toArray) (ys := its2.toArray) (n := min its.toArray.size its2.toArray.size) (I1.ok.hd hc) (PySem.W.ktu_apart s1.heap.objs.size a b la lb)
        ⟨L la, L la, Nat.ne_of_lt la, L la⟩ ⟨L lb, L lb, Nat.ne_of_lt lb, L lb⟩ rfl (by rw [List.size_toArray, List.size_toArray]; have := rv.length; omega) (fun b hb => ?_) ⟨.inl ⟨rfl, hz, _, _, hTO⟩, hTI, h1, h2, p1.isList.at fun o q => hk _ _ q, p2.isList.at fun o q => hk _ _ q⟩ hz fun h2' acc c kk hS sz P => ?_
      · simp only [DZ.fpZ, List.mem_cons, List.not_mem_nil, or_false] at hb
        show b < h'.objs.size
        rw [hsz]; exact in7 hb la lb
      have ks : ∀ b o, s1.heap.get? b = some o → h2'.get? b = some o := fun b o e => kk b o (fun m => by
        simp only [List.mem_cons, List.not_mem_nil, or_false] at m
        exact in4 m (Heap.lt_size e)) (hk b o e)
      obtain ⟨ts, e1, nd, big, prs, zp⟩ := trips_of (vs := xs) (us := ys) (xs := its.toArray) (ys := its2.toArray) (by simpa using rv) (by simpa using rv2) sz P
      have hb : s1.heap.objs.size ≤ h'.objs.size := by omega
      have nH : ∀ t ∈ ts, H1 t.1 = none := fun t ht => I1.hok.fresh (ne_big (m := h'.objs.size) (big t ht) hb).1
      have nS : H1 h'.objs.size = none := I1.hok.fresh hb
      have tS : ∀ t ∈ ts, t.1 ≠ h'.objs.size := fun t ht => (ne_big (m := h'.objs.size) (big t ht) hb).2
      have hok1 : HOk X.prog X.w H1 h2' := I1.hok.kept ks
      have hok2 := lays_hok hok1 nd nH prs
      have lS : lays H1 ts h'.objs.size = none := by rw [lays_out tS]; exact nS
      have vts : Vals (ts.map fun t => V.ref t.1) acc.toList := by rw [e1]; exact vals_trips ts
      have hlen : (ts.map fun t => V.ref t.1).length ≤ sizeLine := by
        rw [vts.length, Array.length_toList, sz, List.size_toArray, List.size_toArray]
        have := rv.length; omega
      have hok3 : HOk X.prog X.w (upd (lays H1 ts) h'.objs.size (.lst (ts.map fun t => .ref t.1))) h2' :=
        hok2.laidN (fun _ _ q => q) lS ⟨hlen, acc.toList, c, vts, by rw [Array.toArray_toList]; exact hS⟩
      have old : ∀ b, b < s1.heap.objs.size → upd (lays H1 ts) h'.objs.size (.lst (ts.map fun t => .ref t.1)) b = H1 b := fun b hb' => by
        rw [upd_ne (ne_old hb' hb), lays_out fun t ht => ne_old2 (m := h'.objs.size) (big t ht) hb' hb]
      have lt_of : ∀ b u, H1 b = some u → b < s1.heap.objs.size := fun b u e => by
        by_cases hb' : b < s1.heap.objs.size
        · exact hb'
        · rw [I1.hok.fresh (Nat.le_of_not_lt hb')] at e; cases e
      have U : Un X.fs [] H1 (upd (lays H1 ts) h'.objs.size (.lst (ts.map fun t => .ref t.1))) s1.heap h2' := {
        keep := fun b u e _ _ _ => ks b u e
        slot := fun b u e _ _ _ => ⟨u.slots, ks b u e⟩
        free := fun b u e n _ => by rw [old b (Heap.lt_size e)]; exact n
        there := fun b u e _ => ⟨u, ks b u e⟩
        tups := fun b zs e => by rw [old b (lt_of b _ e)]; exact e
        frzs := fun b u zs e => by rw [old b (lt_of b _ e)]; exact e
        tbls := fun b zs e => ⟨#[], by rw [old b (lt_of b _ e), e]; simp⟩ }
      exact ⟨.ref h'.objs.size, _, I1.un (t' := s1.toks) U hok3, rfl, q ts _ nd (fun t ht => ⟨nH t ht, tS t ht⟩) nS zp⟩
def wZipL (wa wb : WE) : WA := fun ρ Q => wa ρ fun x => wb ρ fun y => ∃ xs ys, x = .list xs ∧ y = .list ys ∧ Q (zipD xs ys)
theorem dqa_trips : ∀ {ts : List Trip} {vs us : List V} {xs ys : List PyData} {G' : Hp}, ts.map (·.2) = vs.zip us → (∀ t ∈ ts, G' t.1 = some (.tup [t.2.1, t.2.2])) → DqAll K G' vs xs → DqAll K G' us ys → DqAll K G' (ts.map fun t => .ref t.1) (zipD xs ys)
  | [], vs, us, xs, ys, G', e, _, a, b => by
    have : zipD xs ys = [] := by
      cases a with
      | nil => rfl
      | cons _ _ =>
        cases b with
        | nil => rfl
        | cons _ _ => simp at e
    rw [this]; exact .nil
  | t :: r, vs, us, xs, ys, G', e, h, a, b => by
    cases a with
    | nil => simp at e
    | cons ha a =>
      cases b with
      | nil => simp at e
      | cons hb b =>
        rw [List.map_cons, List.zip_cons_cons, List.cons.injEq] at e
        have h0 := h t List.mem_cons_self
        rw [e.1] at h0
        exact .cons (.tup (.inl (.inl h0)) (.cons ha (.cons hb .nil))) (dqa_trips e.2 (fun u hu => h u (List.mem_cons_of_mem _ hu)) a b)
theorem sl_zip (hc : X.calm = true) (hgl : Gl X "list") (hml : X.mg "list" = none) (hgz : Gl X "zip") (hmz : X.mg "zip" = none) (ha : SE X F a wa) (hb : SE X F b wb)
    (hs : starEach [a, b] X.env = (false, eval a X.env) :: starEach [b] X.env := by rfl) (hsb : starEach [b] X.env = (false, eval b X.env) :: starEach [] X.env := by rfl) (hpl : (backTo pos2 (starEach [b] X.env)).any (·.1) = false := by rfl)
    (hs2 : starEach [.Call (.Name "zip" p2) [a, b] [] pos2] X.env = (false, eval (.Call (.Name "zip" p2) [a, b] [] pos2) X.env) :: starEach [] X.env := by rfl) :
    SEL X F (.Call (.Name "list" p1) [.Call (.Name "zip" p2) [a, b] [] pos2] [] pos) (wZipL wa wb) := by
  refine ⟨pe_imp (pe_zipL hc hgl hml hgz hmz (pa_cons ha.pe (pa_cons hb.pe pa_nil hsb) hs) hs hpl hs2) fun σ H Q q => ?_, fun ρ Q Q' k q => ha.mono ρ _ _ (fun x q => hb.mono ρ _ _ (fun y ⟨xs, ys, e, e', q⟩ => ⟨xs, ys, e, e', k _ q⟩) q) q⟩
  obtain ⟨ρ, G, ow, R, q⟩ := q
  refine ⟨ρ, G, ow, R, ha.mono ρ _ _ (fun x q v H1 G1 g1 d1 => ?_) q⟩
  have R1 := R.grow g1
  refine ⟨ρ, G1, ow, R1, hb.mono ρ _ _ (fun y q' u H2 G2 g2 d2 => ?_) q⟩
  obtain ⟨xs, ys, rfl, rfl, q'⟩ := q'
  have R2 := R1.grow g2
  have g12 := g1.trans g2 R.dkok
  have d1 := dp_mono g2.gg _ _ d1
  cases d1 with
  | lst h1 a1 =>
    cases d2 with
    | lst h2 a2 =>
      refine ⟨_, _, _, _, rfl, .inl (.inl (R2.gr.sub _ _ h1)), .inl (.inl (R2.gr.sub _ _ h2)), fun ts S nd hn hS zp => ?_⟩
      have g3 := lays_grow R2.gr.sub R2.dkok nd fun t ht => (hn t ht).1
      have lS : lays H2 ts S = none := by rw [lays_out fun t ht => (hn t ht).2]; exact hS
      have G2S : G2 S = none := by
        cases e : G2 S with
        | none => rfl
        | some o => rw [g2.sub S o e] at hS; cases hS
      have lG : lays G2 ts S = none := by rw [lays_out fun t ht => (hn t ht).2]; exact G2S
      have g4 := Grow.newH (o := .lst (ts.map fun t => .ref t.1)) g3.sub g3.dk lS
      exact q' S _ _ _ ((g12.trans g3 R.dkok).trans g4 R.dkok) (g12.th R.dkok hS) lG upd_same (dqa_trips zp (fun t ht => lays_at nd ht) (dpa_mono g3.gg _ _ a1) (dpa_mono g3.gg _ _ a2))

/-! ### index of a text in a list of texts -/
variable {o : Expr} {wo : WE} {cpos : Pos}
def ixOf (z : Str) : List Str → Option Nat
  | [] => none
  | x :: xs => if x = z then some 0 else (ixOf z xs).map (· + 1)
theorem ixOf_spec {z : Str} : ∀ {xs : List Str} {j : Nat}, ixOf z xs = some j → xs[j]? = some z ∧ ∀ (m : Nat) (z' : Str), m < j → xs[m]? = some z' → z' ≠ z
  | [], j, h => by cases h
  | x :: xs, j, h => by
    unfold ixOf at h
    split at h
    · rename_i e
      cases h
      exact ⟨by rw [← e]; rfl, fun m z' hm => absurd hm (Nat.not_lt_zero _)⟩
    · rename_i ne
      cases e : ixOf z xs with
      | none => rw [e] at h; cases h
      | some i =>
        rw [e] at h
        cases h
        obtain ⟨h1, h2⟩ := ixOf_spec e
        refine ⟨by simpa using h1, fun m z' hm hz => ?_⟩
        cases m with
        | zero => simp at hz; rw [← hz]; exact ne
        | succ m => exact h2 m z' (Nat.lt_of_succ_lt_succ hm) (by simpa using hz)
def wIndex (wo wa : WE) : WE := fun ρ Q => wo ρ fun x => ∃ xs : List Str, x = .list (xs.map .str) ∧ wa ρ fun y => ∃ (z : Str) (j : Nat), y = .str z ∧ ixOf z xs = some j ∧ Q (.int (j : Nat))
theorem se_index (ho : SE X F o wo) (he : SE X F e wa)
    (hbase : attributeBase o "index" X.env (eval o X.env) = eval o X.env := by rfl)
    (hfew : ((backTo cpos (starEach [e] X.env)).all (fun x => !x.1) && (backToKw cpos (keywordEach [] X.env)).all (fun x => x.1.isSome) && decide ([e].length + ([] : List Keyword).length + (if ([] : List Keyword).isEmpty then 0 else 1) < 30)) = true := by rfl)
    (hline : (apos.endLine == cpos.line) = true := by rfl) (hs : starEach [e] X.env = (false, eval e X.env) :: starEach [] X.env := by rfl) (hplain : (backTo cpos (starEach [] X.env)).any (·.1) = false := by rfl) :
    SE X F (.Call (.Attribute o "index" apos) [e] [] cpos) (wIndex wo wa) := by
  refine ⟨pe_imp (pe_bm PySem.F.plainAttrs_list PySem.F.slot_list_index PySem.F.type_list_index mt_index ho.pe (pa_cons he.pe pa_nil hs) hbase hfew hline hs hplain) fun σ H Q q => ?_, fun ρ Q Q' k q => ho.mono ρ _ _ (fun x ⟨xs, e1, q⟩ => ⟨xs, e1, he.mono ρ _ _ (fun y ⟨z, j, e2, m, q⟩ => ⟨z, j, e2, m, k _ q⟩) q⟩) q⟩
  obtain ⟨ρ, G, ow, R, q⟩ := q
  refine ⟨ρ, G, ow, R, ho.mono ρ _ _ (fun x q v H1 G1 g1 d1 => ?_) q⟩
  obtain ⟨xs, rfl, q⟩ := q
  have R1 := R.grow g1
  cases d1 with
  | lst h1 a1 =>
    refine ⟨.inl ⟨rfl, _, .inl (.inl (R1.gr.sub _ _ h1))⟩, ρ, G1, ow, R1, he.mono ρ _ _ (fun y q' u H2 G2 g2 d2 => ?_) q⟩
    obtain ⟨z, j, rfl, hj, q'⟩ := q'
    have R2 := R1.grow g2
    have ev := dqa_strs a1
    subst ev
    cases d2
    obtain ⟨i1, i2⟩ := ixOf_spec hj
    refine ⟨_, xs.map V.str, .str z, j, .str z, rfl, rfl, .inl (.inl (R2.gr.sub _ _ (g2.gg _ _ h1))), rfl, flat_strs xs, by rw [List.getElem?_map, i1]; rfl, ?_, fun m z' hm hz => ?_, q' _ H2 G2 (g1.trans g2 R.dkok) (.int _)⟩
    · show (z == z) = true
      simp
    · rw [List.getElem?_map] at hz
      cases e : xs[m]? with
      | none => rw [e] at hz; cases hz
      | some y =>
        rw [e] at hz
        cases hz
        show (y == z) = false
        exact beq_eq_false_iff_ne.mpr (i2 m y hm e)
end
end DL
set_option maxRecDepth 100000
set_option maxHeartbeats 4000000
/-! # The data layer: a small dict with texts for keys, numbers for values -/
namespace DL
open PySem PySem.Spec L2
section
variable {X : Cx} {F : Fx} {a b c e f o : Expr} {es : List Expr} {pos p p1 p2 p3 pos2 apos cpos : Pos} {wa wb wc : WE} {wr : WA} {K : PySem.W.Frag}
abbrev SI' := List (Str × Int)
def keysOf (kvs : SI') : List (Key × PyData) := kvs.map fun p => (.inr p.1, .int p.2)
def keysV (kvs : SI') : List (Key × V) := kvs.map fun p => (.inr p.1, .int p.2)
theorem pairs_c : ∀ (kvs : SI') {σ : St} {H : Hp} {Q : List (V × V) → Hp → Prop}, Q (kvs.map fun p => (V.str p.1, V.int p.2)) H → tPairs (kvs.map fun p => (tC (.str p.1), tC (.int p.2))) σ H Q
  | [], _, _, _, h => h
  | p :: r, σ, H, Q, h => pairs_c r (σ := σ) (H := H) (Q := fun ps H3 => Q ((V.str p.1, V.int p.2) :: ps) H3) h
/-- the display's own dict; the keys are unlike one another -/
def vDisp (kvs : SI') : WV := fun _ Q => Q (.k (keysOf kvs))
theorem merge_apart : ∀ (kvs acc : List (Key × V)), (kvs.map (·.1)).Nodup → (∀ p ∈ kvs, ∀ q ∈ acc, q.1 ≠ p.1) → mergeK acc kvs = acc ++ kvs
  | [], acc, _, _ => by simp [mergeK]
  | p :: r, acc, nd, h => by
    rw [List.map_cons, List.nodup_cons] at nd
    have e : putK acc p.1 p.2 = acc ++ [p] := by
      unfold putK
      rw [if_neg]
      intro z
      obtain ⟨q, hq, hd⟩ := List.any_eq_true.mp z
      exact h p List.mem_cons_self q hq (of_decide_eq_true hd)
    show mergeK (putK acc p.1 p.2) r = _
    rw [e, merge_apart r _ nd.2 fun q hq q' hq' => ?_]
    · simp
    · rcases List.mem_append.mp hq' with m | m
      · exact h q (List.mem_cons_of_mem _ hq) q' m
      · obtain rfl : q' = p := by simpa using m
        exact fun z => nd.1 (List.mem_map.mpr ⟨q, hq, z.symm⟩)
theorem sv_disp {keys : List (Option Expr)} {values : List Expr} (kvs : SI') (h : PPs X pos keys values (kvs.map fun p => (tC (.str p.1), tC (.int p.2)))) (nd : (kvs.map (·.1)).Nodup) (hz : kvs.length ≤ 15) (hall : keys.all (·.isSome) = true := by rfl) (hl : keys.length = values.length := by rfl) (h0 : keys ≠ [] := by simp)
    (h15 : keys.length ≤ 15 := by decide) : SV X F (.Dict keys values pos) (vDisp kvs) := by
  refine ⟨pe_imp (pe_disp h hall hl h0 h15) fun σ H Q q => ?_, fun ρ Q Q' k q => k _ q⟩
  obtain ⟨ρ, G, ow, R, q⟩ := q
  intro p hp
  refine pairs_c kvs ⟨upd_same, keysV kvs, ?_, by simp [keysV]; exact hz, ?_⟩
  · simp [keysV, kV]
  have em : mergeK [] (keysV kvs) = keysV kvs := by
    rw [merge_apart _ [] ?_ fun p _ q hq => absurd hq (by simp)]
    · simp
    · have e : (keysV kvs).map (·.1) = (kvs.map (·.1)).map Sum.inr := by simp [keysV, List.map_map]
      rw [e]
      exact List.pairwise_map.mpr (nd.imp fun ne e => ne (Sum.inr.inj e))
  rw [em]
  have eu : upd (upd H p (.dK [])) p (.dK (keysV kvs)) = upd H p (.dK (keysV kvs)) := by
    funext b
    by_cases hb : b = p
    · subst hb; rw [upd_same, upd_same]
    · rw [upd_ne hb, upd_ne hb, upd_ne hb]
  rw [eu]
  have g := Grow.newH (o := .dK (keysV kvs)) R.gr.sub R.dkok hp
  have g0 : G p = none := by
    cases e : G p with
    | none => rfl
    | some o => rw [R.gr.sub p o e] at hp; cases hp
  have kk : ∀ kvs : SI', KvAll X.K G (keysV kvs) (keysOf kvs) := fun kvs => by
    induction kvs with
    | nil => exact .nil
    | cons p r ih => exact .cons ⟨rfl, .int p.2⟩ ih
  exact q (.ref p) _ G [p] g ⟨p, _, rfl, rfl, upd_same, kk kvs⟩ fun p' hp' => by
    obtain rfl : p' = p := by simpa using hp'
    exact ⟨hp, g0, by rw [upd_same]; simp⟩
def valD (kvs : List (Key × PyData)) (k : Key) : Option PyData := (kvs.find? fun kv => decide (kv.1 = k)).map (·.2)
theorem kva_val {G : Hp} {k : Key} : ∀ {ws : List (Key × V)} {kvs : List (Key × PyData)}, KvAll K G ws kvs → (valV ws k = none ∧ valD kvs k = none) ∨ ∃ v d, valV ws k = some v ∧ valD kvs k = some d ∧ Dq K G v d
  | _, _, .nil => .inl ⟨rfl, rfl⟩
  | p :: ws, q :: kvs, .cons h a => by
    by_cases e : p.1 = k
    · right
      refine ⟨p.2, q.2, ?_, ?_, h.2⟩
      · simp [valV, List.find?_cons, e]
      · simp [valD, List.find?_cons, ← h.1, e]
    · have e2 : ¬ q.1 = k := by rw [← h.1]; exact e
      have := kva_val (k := k) a
      simpa [valV, valD, List.find?_cons, e, e2] using this
/-- d.get(text, x), d the def's own -/
def wGetO (i : Nat) (wk wd : WE) : WE := fun ρ Q => ∃ kvs, ρ[i]? = some (.k kvs) ∧ wk ρ fun k => wd ρ fun d => ∃ z, k = .str z ∧ Q ((valD kvs (.inr z)).getD d)
theorem se_getO {i : Nat} (hu : X.A.units + 64 < cLine) (ho : PE X o (tVar i)) (he : SE X F e wa) (hf : SE X F f wb)
    (hbase : attributeBase o "get" X.env (eval o X.env) = eval o X.env := by rfl)
    (hfew : ((backTo cpos (starEach [e, f] X.env)).all (fun x => !x.1) && (backToKw cpos (keywordEach [] X.env)).all (fun x => x.1.isSome) && decide (([e, f] : List Expr).length + ([] : List Keyword).length + (if ([] : List Keyword).isEmpty then 0 else 1) < 30)) = true := by rfl)
    (hline : (apos.endLine == cpos.line) = true := by rfl) (ht : backTo cpos (starEach [e, f] X.env) = [(false, eval e X.env), (false, eval f X.env)] := by rfl) :
    SE X F (.Call (.Attribute o "get" apos) [e, f] [] cpos) (wGetO i wa wb) := by
  refine ⟨pe_imp (pe_dget2 (by omega) ho he.pe hf.pe ⟨hbase, hfew, hline, ht⟩) fun σ H Q q => ?_, fun ρ Q Q' k ⟨kvs, h, q⟩ => ⟨kvs, h, he.mono ρ _ _ (fun x q => hf.mono ρ _ _ (fun y ⟨z, e, q⟩ => ⟨z, e, k _ q⟩) q) q⟩⟩
  obtain ⟨ρ, G, ow, R, kvs, hk, q⟩ := q
  obtain ⟨p, ws, o1, o2, o3, o4⟩ := R.sl i _ hk
  have hp : p ∈ ow i := by rw [o1]; simp
  refine ⟨.ref p, o2, p, rfl, .inl ⟨ws, .inl o3⟩, ρ, G, ow, R, he.mono ρ _ _ (fun x q v H1 G1 g1 d1 => ?_) q⟩
  have R1 := R.grow g1
  refine ⟨ρ, G1, ow, R1, hf.mono ρ _ _ (fun y q' u H2 G2 g2 d2 => ?_) q⟩
  obtain ⟨z, rfl, q'⟩ := q'
  cases d1
  have g := g1.trans g2 R.dkok
  have h2 : H2 p = some (.dK ws) := g.hh p _ (R.notdk hp) o3 (fun _ e => by cases e)
  refine ⟨valV ws (.inr z), .inl ⟨ws, .inr z, .inl h2, rfl, rfl⟩, ?_⟩
  rcases kva_val (k := .inr z) (kva_mono g.gg o4) with ⟨e1, e2⟩ | ⟨v, d, e1, e2, dd⟩
  · rw [e2] at q'
    rw [e1]
    exact q' u H2 G2 g d2
  · rw [e2] at q'
    rw [e1]
    exact q' v H2 G2 g dd
end
end DL
set_option maxRecDepth 100000
set_option maxHeartbeats 4000000
/-! # An own error over Exception with a field thing that its own __init__ sets -/
namespace DR
open PySem PySem.W PySem.Calls PyProof.Rows PySem.HandSPX
/-- own classes, then Exception's own order -/
def overExc : List Value → Bool
  | .ref _ :: r => overExc r
  | l => l == [.type "Exception", .type "BaseException", .type "object"]
theorem overExc_cases : ∀ l : List Value, overExc l = true → (∃ c r, l = .ref c :: r ∧ overExc r = true) ∨ l = [.type "Exception", .type "BaseException", .type "object"]
  | .ref c :: r, e => .inl ⟨c, r, rfl, e⟩
  | [], e => .inr (beq_iff_eq.mp e)
  | .none :: _, e | .ellipsis :: _, e | .notImplemented :: _, e | .bool _ :: _, e | .int _ _ :: _, e | .float _ _ :: _, e | .str _ _ :: _, e | .bytes _ _ :: _, e | .type _ :: _, e | .builtin _ :: _, e => .inr (beq_iff_eq.mp e)
theorem overExc_pass (self : Value) : ∀ l : List Value, overExc l = true → refuseLoop self "__setattr__" l = pure ()
  | [], e => absurd e (by decide)
  | a :: r, e => by
    rcases overExc_cases (a :: r) e with ⟨c, r', q, h⟩ | q
    · obtain ⟨rfl, rfl⟩ := List.cons.inj q
      rw [refuseLoop_ref]; exact overExc_pass self _ h
    · rw [q]; exact F.store_Exception.passes self
theorem overExc_contains (X : String) : ∀ l : List Value, overExc l = true → l.contains (.type X) = [Value.type "Exception", .type "BaseException", .type "object"].contains (.type X)
  | [], e => absurd e (by decide)
  | a :: r, e => by
    rcases overExc_cases (a :: r) e with ⟨c, r', q, h⟩ | q
    · obtain ⟨rfl, rfl⟩ := List.cons.inj q
      rw [List.contains_cons, overExc_contains X _ h]; rfl
    · rw [q]
theorem overExc_ne {l : List Value} (e : overExc l = true) : l.isEmpty = false := by
  cases l with
  | nil => exact absurd e (by decide)
  | cons _ _ => rfl
def iA (p1 p2 : Pos) : Arguments := { posonlyargs := [], args := [{ arg := "self", annotation := none, pos := p1 }, { arg := "thing", annotation := none, pos := p2 }], vararg := none, kwonlyargs := [], kw_defaults := [], kwarg := none, defaults := [] }
def iB (q1 q2 q3 q4 : Pos) : List Stmt := [.Assign [.Attribute (.Name "self" q1) "thing" q2] (.Name "thing" q3) q4]
def iS : Scope := { kind := .function, names := [(PySem.Str.ofString "self", .local), (PySem.Str.ofString "thing", .local)], isGenerator := false, isCoroutine := false, more := [] }
/-- what the written part says of the error's class, at C, and of its __init__, at fI -/
structure ErrTxt (K : Frag) (mg : Str → Option Value) (x qn : Str) (C fI : Addr) : Prop where
  gC : mg x = some (.ref C)
  cls : ∃ nm q N bs bm sn sub ab col dd k0 k1 k2 k3 k5, K.lookup C = some (excClassObj nm q C N bs bm true sn sub ab col dd k0 k1 k2 k3 k5 "Exception.__new__") ∧ overExc bm = true
  sa : findIn K (.ref C) "__setattr__" = some (some (.builtin "object.__setattr__"))
  ga : findIn K (.ref C) "__getattribute__" = some (some (.builtin "BaseException.__getattribute__"))
  gg : findIn K (.ref C) "__getattr__" = some none
  noN : findIn K (.ref C) "thing" = some none
  iC : findIn K (.ref C) "__init__" = some (some (.ref fI))
  tC : typeIn K (.ref fI) = some (.type "function")
  kC : keepIn K (.ref C) = true
  exC : subIn K (.ref C) (.type "BaseException") = some true
  tyC : typeIn K (.ref C) = some (.type "type")
  hdC : hasDictIn K C = true
  clC : (clsIn K C).isSome = true
  fcl : findIn K (.ref C) "__class__" = some (some (.builtin "object.__class__"))
  mob : mroIn K C (.type "object") = some true
  fn : ∃ (oc : Value) (od : Option Addr) (doc pm : Value) (an : Option Addr) (cdv ct : Value) (osl : Array (Option Value)) (p1 p2 q1 q2 q3 q4 : Pos),
    K.lookup fI = some ⟨oc, od, .func (fnOf "__init__" qn (iA p1 p2) (iB q1 q2 q3 q4) iS .none .none doc pm an cdv ct), osl⟩ ∧ codeIn K cdv qn = true
theorem one_size (v : Value) : [v].length ≤ sizeLine := by
  rw [sizeLine_eq]
  exact (by decide : 1 ≤ 16777216)
theorem ldC {M : Model} {s : Shared} {name : Str} {scope : Scope} {L a : Addr} {cd : Value} {m : Str → Option Value} {x : Str} {pos : Pos} {v : Value} {Q : Value → Shared → Prop} {A : Around} {E : Value → Shared → Prop} (hn : s.heap.Ns L m) (hv : m x = some v) (h : Q v s)
    (hk : scope.kind = .function := by rfl) (hl : (envOfC name scope L a cd).kindOf x = some .local := by rfl) (hd : (x == ("__debug__" : Str)) = false := by decide) :
    wpAny M A (eval (.Name x pos) (envOfC name scope L a cd)) Q E s := wpAny_Name (wpAny_loadName_local hk hl hn hv h) hd
structure InitEnd (h h' : Heap) (x C dx t1 : Addr) (v : Value) : Prop where
  keep : ∀ b o, b ≠ x → h.get? b = some o → h'.get? b = some o
  obj : h'.get? x = some { cls := .ref C, dict := some dx, data := .fields #[.ref t1, .none, .none, .none, .bool false, .none] }
  dbig : h.objs.size ≤ dx
  dne : dx ≠ x
  ns : h'.Ns1 dx (fun y => if y = "thing" then some v else none)
structure Made1 (h h' : Heap) (e C d : Addr) (v : Value) : Prop where
  keep : ∀ b o, h.get? b = some o → h'.get? b = some o
  new : h.objs.size ≤ e
  obj : ∃ oe vs, h'.get? e = some oe ∧ oe.cls = .ref C ∧ oe.dict = some d ∧ oe.data = .fields vs ∧ vs[1]? = some .none
  dbig : h.objs.size ≤ d
  dne : d ≠ e
  ns : h'.Ns1 d (fun y => if y = "thing" then some v else none)
section
variable {prog : Program} {w : World} {A : Around} {E : Value → Shared → Prop} {R : Result → Shared → Prop} {hp : Heap} {g : Array GenState} {d : Drawn} {t : Nat} {os : OsState}
theorem set_new {K : W.Frag} {name : Str} {tk : Tok} {v : Value} {x C : Addr} {fv : Array Value} {cd : ClassData}
    (X : K.In hp) (hx : hp.get? x = some { cls := .ref C, data := .fields fv }) (hcd : W.clsIn K C = some cd) (hm : overExc cd.mro = true) (hh : cd.hasDict = true) (ha : W.findIn K (.ref C) name = some none)
    (hq : ∀ h' tk' dx, (∀ b o, b ≠ x → hp.get? b = some o → h'.get? b = some o) → hp.objs.size ≤ dx → dx ≠ x → h'.get? x = some { cls := .ref C, dict := some dx, data := .fields fv } →
      h'.Ns1 dx (fun y => if y = name then some v else none) → R (.ok (.ret .none)) ⟨h', g, d, tk', os⟩) :
    codeAny (model prog w) A (.call (.builtin "object.__setattr__") ⟨[.ref x, .str name tk, v], []⟩) R ⟨hp, g, d, t, os⟩ := by
  have I : W.InstAt hp x { cls := .ref C, data := .fields fv } C none := ⟨hx, rfl, rfl, trivial⟩
  have SF := F.store_object
  have ne := overExc_ne hm
  have hob : cd.mro.contains (.type "object") = true := (overExc_contains "object" _ hm).trans (by decide +kernel)
  have hxs : x ≠ hp.objs.size := Nat.ne_of_lt (Heap.lt_size hx)
  have sub : W.Looks (model prog w) hp (isInstance (.ref x) (.type "object")) true := I.type.andThen (W.looks_mroIn X (by unfold W.mroIn; rw [hcd, Option.bind_some, if_neg (by rw [ne]; decide), hob]))
  refine codeAny_call_builtin SF.slot.plain SF.entry (@W.check_slot (model prog w) _ _ ⟨hp, g, d, t, os⟩ "object.__setattr__" "object" "__setattr__" (.ref x) [.str name tk, v] [] _ SF.kind SF.split sub (SF.args (.ref x) (.str name tk) v) ?_)
  have hmr : W.Looks (model prog w) hp (mroOf (.ref C)) cd.mro := (W.looks_clsIn X hcd).andThen .now
  have L3 : W.Looks (model prog w) hp (Builtin.ObjectAttr.storeTaker? none) none := .now
  have hcls : W.Looks (model prog w) hp (classData C) cd := W.looks_clsIn X hcd
  rw [W.osa_eq, refuse_eq]
  refine wpAny_bind (wpAny_bind (I.type.at (wpAny_bind (hmr.at ?_))))
  rw [overExc_pass _ _ hm]
  refine wpAny_pure (wpAny_bind (I.type.at (wpAny_bind ((W.looks_findIn X ha).at (wpAny_bind (L3.at ?_))))))
  show wpAny _ _ (Builtin.ObjectAttr.storeInOwnDict (.ref x) (.ref C) (.str name tk) name v false) _ _ _
  obtain ⟨nm, bs, mro, ns, qn, hd, sn, sb, ab, col, del⟩ := cd
  dsimp only at hh
  subst hh
  unfold Builtin.ObjectAttr.storeInOwnDict Builtin.ObjectAttr.ownDictForStores
  repeat (first | with_reducible refine store_in_new ?_ ?_ | with_reducible refine wpAny_loadPart_at hx ?_ | with_reducible refine hcls.at ?_ | wp_step)
  · exact ⟨_, #[], _, (Heap.get?_update_ne _ _ _ _ hxs.symm).trans (Heap.get?_push_at rfl rfl), rfl, fun e he => absurd he (by simp), fun _ => rfl⟩
  · intro h' tk' hn' hs
    have hx₁ : (hp.push { cls := .type "dict", data := .dict #[] }).get? x = some { cls := .ref C, data := .fields fv } := Heap.get?_push_of_some _ hx
    refine hq h' tk' hp.objs.size (fun b o hb ho => ?_) (Nat.le_refl _) hxs.symm ?_ hn'
    · exact (hs.2 b (Nat.ne_of_lt (Heap.lt_size ho))).trans ((Heap.get?_update_ne _ _ _ _ hb).trans (Heap.get?_push_of_some _ ho))
    · exact (hs.2 x hxs).trans (Heap.get?_update_self _ hx₁ rfl)
end
section
variable {prog : Program} {w : World} {A : Around} {E : Value → Shared → Prop} {R : Result → Shared → Prop} {s : Shared} {K : Frag} {mg : Str → Option Value} {x0 qn : Str} {C fI : Addr}
theorem init_err (T : ErrTxt K mg x0 qn C fI) {x t0 : Addr} {v : Value} (X : K.In s.heap) (hlim : s.heap.NoLimit) (hx : s.heap.get? x = some (excO C t0)) (hroom : A.depth < recursionLimit)
    (hq : ∀ h' tk dx, InitEnd s.heap h' x C dx t0 v → R (.ok (.ret .none)) { s with heap := h', toks := tk }) :
    codeAny (model prog w) A (.call (.ref fI) ⟨[.ref x, v], []⟩) R s := by
  obtain ⟨oc, od, doc, pm, an, cdv, ct, osl, p1, p2, q1, q2, q3, q4, ho, hcd⟩ := T.fn
  obtain ⟨nm, q, N, bs, bm, sn, sub, ab, col, dd, k0, k1, k2, k3, k5, hC, hbm⟩ := T.cls
  have hcl : clsIn K C = some { name := nm, bases := bs, mro := .ref C :: bm, ns := N, qualname := q, hasDict := true, slotNames := sn, subclasses := sub, abstract := ab, collection := col, hasDel := false } := by unfold clsIn; rw [hC] <;> rfl
  refine Att.call_fn (binds := [("self", .ref x), ("thing", v)]) X hlim ho hcd hroom (BindsTo.of_eq (by first | rfl | with_unfolding_all rfl)) (by first | rfl | decide | with_unfolding_all rfl) (fun s₁ IC => ?_) rfl rfl rfl
  obtain ⟨h₁, tk₁, rfl⟩ := IC.toInCall.same
  have k : ∀ b o, s.heap.get? b = some o → h₁.get? b = some o := IC.toInCall.keep
  have hn := IC.toInCall.ns
  have hxL : s.heap.objs.size ≠ x := Nat.ne_of_gt (Heap.lt_size hx)
  have X₁ : K.In h₁ := X.keeps k
  have hx₁ := k _ _ hx
  show wpAny _ _ (execs _ _) _ _ _
  refine wpAny_execs_cons (plainObj_wpAny_Assign_Attribute ?_)
  refine ldC (v := v) hn (by first | rfl | with_unfolding_all rfl | kernel_rfl) (ldC (v := .ref x) hn (by first | rfl | with_unfolding_all rfl | kernel_rfl) ?_)
  refine set_plain X₁ (ox := excO C t0) (od := none) ⟨hx₁, rfl, rfl, trivial⟩ T.sa ?_
  refine set_new X₁ hx₁ hcl (show overExc (.ref C :: bm) = true from hbm) rfl T.noN (fun h₃ tk₃ dx k₃ dn dne hx₃ hn₃ => ?_)
  show wpAny _ _ (execs _ _) _ _ _
  have z : s.heap.objs.size < h₁.objs.size := hn.lt
  exact wpAny_execs_nil (hq h₃ tk₃ dx ⟨fun b o hb e => k₃ b o hb (k b o e), hx₃, Nat.le_of_lt (Nat.lt_of_lt_of_le z dn), dne, hn₃⟩)
theorem made_err (T : ErrTxt K mg x0 qn C fI) {v : Value} (X : K.In s.heap) (hlim : s.heap.NoLimit) (hroom : A.depth + 1 < recursionLimit)
    (hq : ∀ h' tk e d, Made1 s.heap h' e C d v → R (.ok (.ret (.ref e))) { s with heap := h', toks := tk }) :
    codeAny (model prog w) A (.call (.ref C) ⟨[v], []⟩) R s := by
  obtain ⟨nm, q, N, bs, bm, sn, sub, ab, col, dd, k0, k1, k2, k3, k5, hC, hbm⟩ := T.cls
  obtain ⟨hp, g, dr, tk, os⟩ := s
  have k : ∀ b o, hp.get? b = some o → ((hp.push (kdv_tup [v])).push (excO C hp.objs.size)).get? b = some o := fun b o e => Heap.get?_push_of_some _ (Heap.get?_push_of_some _ e)
  have hget : ((hp.push (kdv_tup [v])).push (excO C hp.objs.size)).get? (hp.objs.size + 1) = some (excO C hp.objs.size) := by heap_get
  refine call_own F.excBase_Exception (fun X => overExc_contains X bm hbm) (X _ _ hC) (looks_findIn X T.iC) (fun self => bind_fn X self T.tC) (one_size v) ?_
  refine init_err (s := ⟨(hp.push (kdv_tup [v])).push (excO C hp.objs.size), g, dr, tk, os⟩) T (X.keeps k) (hlim.keeps k) hget ?_ fun h' tk' dx ⟨k', hx, dn, dne, hns⟩ => ?_
  · show A.depth + 1 < recursionLimit
    exact hroom
  · have old : ∀ b o, hp.get? b = some o → h'.get? b = some o := fun b o e => k' b o (Nat.ne_of_lt (Nat.lt_succ_of_lt (Heap.lt_size e))) (k b o e)
    have z : hp.objs.size + 1 + 1 ≤ dx := by
      first
        | (simpa only [Heap.size_push] using dn)
        | exact dn
        | (have q := dn; rw [Heap.size_push, Heap.size_push] at q; exact q)
    exact ⟨rfl, hq h' tk' (hp.objs.size + 1) dx ⟨old, Nat.le_succ _, ⟨_, _, hx, rfl, rfl, rfl, rfl⟩, Nat.le_trans (Nat.le_trans (Nat.le_succ _) (Nat.le_succ _)) z, dne, hns⟩⟩
end
end DR
set_option maxRecDepth 100000
set_option maxHeartbeats 4000000
/-! # The data layer: raise of an own error -/
namespace DL
open PySem PySem.Spec L2 DR
theorem rel_thing {v : V} {v' : Value} (r : RelV v v') (f : Str) : RelO (List.lookup f [(("thing" : Str), v)]) (if f = "thing" then some v' else none) := by
  by_cases hw : f = "thing"
  · subst hw
    rw [if_pos rfl]
    have q : List.lookup ("thing" : Str) [(("thing" : Str), v)] = some v := by simp [List.lookup]
    rw [q]
    exact r
  · rw [if_neg hw]
    have qw : (f == ("thing" : Str)) = false := by simpa using hw
    have q2 : List.lookup f [(("thing" : Str), v)] = none := by simp [List.lookup, qw]
    rw [q2]
    trivial
section
variable {X : Cx} {F : Fx} {a b c e : Expr} {es : List Expr} {pos p p1 p2 pos2 : Pos} {wa wb : WE} {wr : WA} {K : PySem.W.Frag} {x qn : Str} {C fI : Addr} {k : Nat}
def tMkE (C : Addr) (ta : TA) : St → Hp → XK → Prop := fun σ H Q => ta σ H fun vs H1 => ∃ v, vs = [v] ∧ ∀ d, H1 d = none → Q (.ref C) (some d) (upd H1 d (.xd [(("thing" : Str), v)]))
theorem pmk_err {ta : TA} (T : ErrTxt X.K X.mg x qn C fI) (hr : Room k X.A) (ha : PA X [a] ta) (hg : Gl X x) (hdb : (x == ("__debug__" : Str)) = false)
    (he : starEach (a :: []) X.env = (false, eval a X.env) :: starEach [] X.env := by rfl) (hpl : (backTo pos (starEach [] X.env)).any (·.1) = false := by rfl) :
    PMk X (.Call (.Name x p) [a] [] pos) (tMkE C ta) := by
  intro pins s σ H Q I h
  refine wpAny_Call_Name_kw (ld_glob I hg T.gC ?_ hdb)
  refine PySem.W.callWith_K (h₀ := X.base) I.ok.mod.kin T.kC (thn (ha.run pos pins s σ H _ I h) fun us s1 hh => ?_) he hpl
  obtain ⟨vs, H1, I1, r1, v, ev, q1⟩ := hh
  subst ev
  refine ⟨I1.kIn, ?_⟩
  cases r1 with
  | cons rv rn =>
    rename_i v' us'
    cases rn
    show wpAny _ _ (call (.ref C) [v']) _ _ _
    have hlim := I1.nolimit
    obtain ⟨hp, g, dr, tk, os⟩ := s1
    refine wpAny_call (made_err T I1.kIn hlim (by have := hr.dp; omega) fun h' tk' e d M => ?_)
    show MkP X pins σ Q (.ref e) ⟨h', g, dr, tk', os⟩
    obtain ⟨oe, fv, hoe, hc, hd, hdat, h1⟩ := M.obj
    have hns := M.ns
    obtain ⟨G', g1, g2⟩ := restrict h' fun b => decide (b ≠ e)
    have gk : ∀ b, b ≠ e → G'.get? b = h'.get? b := fun b hb => g1 b (decide_eq_true hb)
    have ge : G'.get? e = none := g2 e (by simp)
    have old : ∀ b o, hp.get? b = some o → G'.get? b = some o := fun b o q => (gk b (Nat.ne_of_lt (Nat.lt_of_lt_of_le (Heap.lt_size q) M.new))).trans (M.keep b o q)
    have ob : ObjOk X.prog X.w (upd H1 d (.xd [(("thing" : Str), v)])) G' d (.xd [(("thing" : Str), v)]) :=
      ⟨_, hns.at (fun o q => (gk d M.dne).trans q), fun f => rel_thing rv f⟩
    have J : Inv X pins σ (upd H1 d (.xd [(("thing" : Str), v)])) ⟨G', g, dr, tk', os⟩ := I1.laid (t' := tk') old M.dbig ob
    refine ⟨e, oe, fv, ⟨G', g, dr, tk', os⟩, _, .ref C, some d, rfl, J, fun b o q => ?_, ge, hoe, ⟨hc, hd⟩, hdat, h1, ?_, rfl, I1.bare, raises_own T.exC T.tyC, q1 d (I1.hok.fresh M.dbig)⟩
    · by_cases hb : b = e
      · have q' : G'.get? b = some o := q
        rw [hb, ge] at q'; cases q'
      · exact (gk b hb).symm.trans q
    · rw [upd_ne (Ne.symm M.dne)]
      exact I1.hok.fresh M.new
/-- raise C(e) -/
def wRaise (C : Addr) (wa : WE) (Ex : Addr → PyData → Prop) : WS := fun ρ _ => wa ρ fun d => Ex C d
theorem ss_raise {E : XK} (hc : X.calm = true) (T : ErrTxt X.K X.mg x qn C fI) (hr : Room k X.A) (tk : Takes X (fun cls d _ H => E cls d H)) (ha : SE X F a wa) (hg : Gl X x) (hdb : (x == ("__debug__" : Str)) = false := by decide)
    (he : starEach (a :: []) X.env = (false, eval a X.env) :: starEach [] X.env := by rfl) (hpl : (backTo pos (starEach [] X.env)).any (·.1) = false := by rfl) :
    SS X F (.Raise (some (.Call (.Name x p) [a] [] pos)) none pos2) (wRaise C wa (exD X.K F E)) := by
  refine ⟨ps_imp (ps_raise hc tk (pmk_err T hr (pa_cons ha.pe pa_nil he) hg hdb he hpl)) fun D σ H q => ?_, fun ρ E E' l q => q⟩
  obtain ⟨ρ, G, ow, R, q⟩ := q
  refine ⟨ρ, G, ow, R, ha.mono ρ _ _ (fun d q v H1 G1 g1 d1 => ?_) q⟩
  refine ⟨v, rfl, fun p hp => ?_⟩
  have R1 := R.grow g1
  have g2 := Grow.newH (o := .xd [(("thing" : Str), v)]) R1.gr.sub R1.dkok hp
  exact q v p _ G1 ((R1.gr).trans g2 R.d0) upd_same d1
end
end DL
set_option maxRecDepth 100000
set_option maxHeartbeats 8000000
/-! # The data layer: the deck -/
namespace DL
open PySem PySem.Spec L2
section
variable {X : Cx} {F : Fx} {a b c e o : Expr} {pos p p1 p2 pos2 pos' : Pos} {wa wb : WE} {K : PySem.W.Frag}
theorem nosl_c {v : Str} {j : Nat} {p : Pos} : NoSl (.Constant (.str v) j p) := fun _ _ => rfl
theorem deck_get {l : Addr} {m t : Int} {H : Hp} {a : Addr} (h : H a = some (.dK (deckV l m t))) {z : Str} {v : V} (e : valV (deckV l m t) (.inr z) = some v) : DGet H a (.str z) (some v) := .inl ⟨_, .inr z, .inl h, rfl, e.symm⟩
/-- deck['mixed'], deck['draws']: some number -/
def wDkI (j : Nat) : WE := fun ρ Q => ρ[j]? = some .dk ∧ ∀ n : Int, Q (.int n)
theorem se_dkI {j k : Nat} {z : Str} (hz : z = "mixed" ∨ z = "draws") (hu : X.A.units + 64 < cLine) (ho : PE X o (tVar j)) : SE X F (.Subscript o (.Constant (.str z) k p) pos) (wDkI j) := by
  refine ⟨pe_imp (pe_dget (by omega) ho pe_str nosl_c) fun σ H Q q => ?_, fun ρ Q Q' k q => ⟨q.1, fun n => k _ (q.2 n)⟩⟩
  obtain ⟨ρ, G, ow, R, hj, q⟩ := q
  obtain ⟨_, kk, hk, hv⟩ := R.sl j _ hj
  obtain ⟨ne, ⟨cells, m, t, h1, h2, h3⟩, _⟩ := R.dkok kk hk
  refine ⟨_, hv, ?_⟩
  rcases hz with rfl | rfl
  · exact ⟨kk.a, .int m, rfl, deck_get h1 (by rfl), q m _ H G R.refl (.int _)⟩
  · exact ⟨kk.a, .int t, rfl, deck_get h1 (by rfl), q t _ H G R.refl (.int _)⟩
/-- deck['draws'] = number -/
def wDkP (j : Nat) (wa : WE) : WS := fun ρ E => ρ[j]? = some .dk ∧ wa ρ fun d => ∃ n, d = .int n ∧ E.nx ρ
theorem put_draws {l : Addr} {m t n : Int} : putK (deckV l m t) (.inr "draws") (.int n) = deckV l m n := by
  rfl
theorem ss_dkP {j k : Nat} (hu : X.A.units + 64 < cLine) (ho : PE X o (tVar j)) (ha : SE X F a wa) (hs : swapsWith a (some (.Subscript o (.Constant (.str "draws") k p) pos')) pos.line X.env = pure false := by rfl) :
    SS X F (.Assign [.Subscript o (.Constant (.str "draws") k p) pos'] a pos) (wDkP j wa) := by
  refine ⟨ps_imp (ps_dput (by omega) ho pe_str ha.pe hs) fun D σ H q => ?_, fun ρ E E' l q => ⟨q.1, ha.mono ρ _ _ (fun d ⟨n, e, q⟩ => ⟨n, e, l.nx _ q⟩) q.2⟩⟩
  obtain ⟨ρ, G, ow, R, hj, q⟩ := q
  obtain ⟨_, kk, hk, hv⟩ := R.sl j _ hj
  refine ⟨ρ, G, ow, R, ha.mono ρ _ _ (fun d q v H1 G1 g1 d1 => ?_) q⟩
  obtain ⟨n, rfl, q⟩ := q
  cases d1
  have R1 := R.grow g1
  obtain ⟨ne, ⟨cells, m, t, h1, h2, h3⟩, _⟩ := R1.dkok kk hk
  refine ⟨_, hv, kk.a, _, rfl, .inl ⟨_, .inr "draws", h1, rfl, ?_, rfl⟩, ?_⟩
  · show 3 < sizeLine
    decide
  rw [put_draws]
  have g2 := (Grow.refl R1.gr.sub R1.dkok).deckA (m := m) (t := n) R1.dkok hk h1
  exact q σ _ G1 ow (R1.grow g2) g1.gg
/-- if deck['left'] != []: cell = deck['left'].pop(); if cell >= 10 ** 18: deck['left'].append(cell // max(2, many)); return int(cell) % many; number = number + int(cell) % 2147483629 -/
def wDkIf (iD iM iN iC : Nat) : WS := fun ρ E => ∃ (many number : Int), ρ[iD]? = some .dk ∧ ρ[iM]? = some (.d (.int many)) ∧ ρ[iN]? = some (.d (.int number)) ∧ (iC ≠ iN ∧ iC ≠ iM ∧ iC ≠ iD ∧ iC < ρ.length) ∧ 1 ≤ many ∧ many ≤ 2 ^ 40 ∧ (∀ z, 0 ≤ z → z < many → E.rt (.int z)) ∧ (∀ c n : Int, E.nx ((ρ.set iC (.d (.int c))).set iN (.d (.int n)))) ∧ E.nx ρ
theorem wDkIf_mono {iD iM iN iC : Nat} : MonoS (wDkIf iD iM iN iC) := fun ρ E E' l ⟨m, n, h1, h2, h3, h4, h5, h6, q1, q2, q3⟩ => ⟨m, n, h1, h2, h3, h4, h5, h6, fun z a b => l.rt _ (q1 z a b), fun c n => l.nx _ (q2 c n), l.nx _ q3⟩
/-- the whole statement's reading, as its rules give it -/
def tLeft (j : Nat) : TE := tDGet (tVar j) (tC (.str "left"))
def tDkIf (K : PySem.W.Frag) (iD iM iN iC : Nat) : TS :=
  tIfS (tTest (tOp (rNeQ K) (tLeft iD) (tLst tNil)))
    (tSeq (tAsg (tBM0 K "list" rPop (tLeft iD)) (gName iC))
      (tSeq (tIfS (tTest (tOp (rI0 fun i j => .bl (decide (j ≤ i))) (tVar iC) (tOp (rI CPow fun i j => .int (i ^ j.toNat)) (tC (.int 10)) (tC (.int 18)))))
          (tSeq (tDrop (tBM K "list" rAppend (tLeft iD) (tCons (tOp (rI CDivW fun i j => .int (i / j)) (tVar iC) (tCB (fun xs H Q => ∃ i j, xs = [.int i, .int j] ∧ Q (.int (if j > i then j else i)) H) (tCons (tC (.int 2)) (tCons (tVar iM) tNil)))) tNil)))
            (tRet (tOp (rI (fun _ j => 0 < j) fun i j => .int (i % j)) (tCB (fun xs H Q => (∃ i, xs = [.int i] ∧ Q (.int i) H) ∨ ∃ k, xs = [.bl k] ∧ Q (.int (if k then 1 else 0)) H) (tCons (tVar iC) tNil)) (tVar iM)))) tNext)
        (tAsg (tOp (rI0 fun i j => .int (i + j)) (tVar iN) (tOp (rI (fun _ j => 0 < j) fun i j => .int (i % j)) (tCB (fun xs H Q => (∃ i, xs = [.int i] ∧ Q (.int i) H) ∨ ∃ k, xs = [.bl k] ∧ Q (.int (if k then 1 else 0)) H) (tCons (tVar iC) tNil)) (tC (.int 2147483629)))) (gName iN)))) tNext
theorem dq_ints {G : Hp} {a : Addr} {ns : List Int} (h : G a = some (.lst (ns.map V.int))) : Dq K G (.ref a) (.list (ns.map PyData.int)) := .lst h (dpa_ints ns)
theorem lay_ints (ns : List Int) : (PyData.list (ns.map PyData.int)).canLay0 = true := by
  show PyData.canLayAll0 (ns.map PyData.int) = true
  induction ns with
  | nil => rfl
  | cons n r ih => simp only [List.map_cons, PyData.canLayAll0, ih]; rfl
theorem dkIf_lift {iD iM iN iC : Nat} {D : Ends} {σ : St} {H : Hp} (q : liftS K F (wDkIf iD iM iN iC) D σ H) : tDkIf K iD iM iN iC D σ H := by
  obtain ⟨ρ, G, ow, R, many, number, hD, hM, hNn, ⟨n1, n2, n3, n4⟩, m1, m2, q1, q2, q3⟩ := q
  obtain ⟨_, kk, hk, hv⟩ := R.sl iD _ hD
  obtain ⟨_, vm, hvm, dm⟩ := R.sl iM _ hM
  obtain ⟨_, vn, hvn, dn⟩ := R.sl iN _ hNn
  cases dm; cases dn
  obtain ⟨ne, ⟨cells, m, t, h1, h2, h3⟩, _⟩ := R.dkok kk hk
  refine ⟨_, hv, kk.a, _, rfl, deck_get h1 rfl, by show 0 ≤ sizeLine; decide, fun p hp => ?_⟩
  have g1 := Grow.newH (o := .lst []) R.gr.sub R.dkok hp
  have e1 : upd H p (.lst []) kk.a = some (.dK (deckV kk.l m t)) := by rw [upd_ne (ne_of_none h1 hp)]; exact h1
  have e2 : upd H p (.lst []) kk.l = some (.lst (cells.map V.int)) := by rw [upd_ne (ne_of_none h2 hp)]; exact h2
  refine ⟨.list (cells.map PyData.int), .list [], Dq.dp _ _ (dq_ints e2), Dq.dp _ _ (.lst upd_same .nil), ?_, _, rfl, ?_⟩
  · unfold cmpOk
    rw [lay_ints]
    have : min (PyData.list (cells.map PyData.int)).depth (PyData.list []).depth ≤ 64 := Nat.le_trans (Nat.min_le_right _ _) (by decide)
    simp [this, PyData.canLay0, PyData.canLayAll0]
  have R1 := R.grow g1
  dsimp only
  rcases List.eq_nil_or_concat cells with rfl | ⟨ini, c, rfl⟩
  · rw [if_neg (by simp [PyData.eqv, PyData.eqvAll])]
    exact q3 σ _ G ow R1 fun _ _ h => h
  rw [if_pos (by cases ini <;> simp [PyData.eqv, PyData.eqvAll])]
  rw [List.concat_eq_append] at h2 h3 e2
  have hlen : (((ini ++ [c]).map V.int)).length = ini.length + 1 := by simp
  have hdrop : ((ini ++ [c]).map V.int).dropLast = ini.map V.int := by rw [List.map_append]; simp
  refine ⟨_, hv, kk.a, _, rfl, deck_get e1 rfl, .inl ⟨rfl, _, .inl (.inl e2)⟩, kk.l, _, .int c, rfl, rfl, e2, by rw [hlen]; simp, ?_⟩
  dsimp only
  rw [hdrop]
  have h3' : ini.length ≤ 1000 := by simp at h3; omega
  have g2 := (Grow.refl R1.gr.sub R1.dkok).deckL (cells := ini) R1.dkok hk e2 h3'
  have R2 := R1.grow g2
  have nLA : kk.a ≠ kk.l := ne
  have f1 : upd (upd H p (.lst [])) kk.l (.lst (ini.map V.int)) kk.a = some (.dK (deckV kk.l m t)) := by rw [upd_ne nLA]; exact e1
  have f2 : upd (upd H p (.lst [])) kk.l (.lst (ini.map V.int)) kk.l = some (.lst (ini.map V.int)) := upd_same
  have R3 := R2.set_d (i := iC) (v := .int c) (d := .int c) (.int c)
  have hC : (σ.set iC (some (V.int c)))[iC]? = some (some (.int c)) := List.getElem?_set_self (by rw [R.len]; exact n4)
  have hD' : (σ.set iC (some (V.int c)))[iD]? = some (some (.ref kk.a)) := by rw [List.getElem?_set_ne n3]; exact hv
  have hM' : (σ.set iC (some (V.int c)))[iM]? = some (some (.int many)) := by rw [List.getElem?_set_ne n2]; exact hvm
  have hN' : (σ.set iC (some (V.int c)))[iN]? = some (some (.int number)) := by rw [List.getElem?_set_ne n1]; exact hvn
  show tIfS _ _ _ _ _ _
  refine ⟨.int c, hC, 10, 18, rfl, rfl, by unfold CPow; decide, c, _, rfl, rfl, _, rfl, ?_⟩
  dsimp only
  split
  · refine ⟨_, hD', kk.a, _, rfl, deck_get f1 rfl, .inl ⟨rfl, _, .inl (.inl f2)⟩, .int c, hC, .int many, hM', 2, many, rfl, c, _, rfl, rfl, ?_, kk.l, _, _, rfl, rfl, f2, ?_, ?_⟩
    · unfold CDivW
      have hmx : (if many > 2 then many else 2) ≤ 2 ^ 40 ∧ 0 < (if many > 2 then many else 2) := by split <;> omega
      refine ⟨hmx.2, ?_⟩
      have : (if many > 2 then many else 2).natAbs < 2 ^ 41 := by omega
      exact Nat.lt_of_lt_of_le (Nat.log2_lt (by omega) |>.mpr this) (by decide)
    · rw [List.length_map]
      exact Nat.lt_of_le_of_lt h3' (by decide)
    have g3 : Grow F.dk _ G (upd (upd (upd H p (.lst [])) kk.l (.lst (ini.map V.int))) kk.l (.lst ((ini ++ [c / (if many > 2 then many else 2)]).map V.int))) G := (Grow.refl R2.gr.sub R2.dkok).deckL R2.dkok hk f2 (by simp; simp at h3; omega)
    have R4 := R3.grow g3
    refine ⟨.int c, hC, .inl ⟨c, rfl, .int many, hM', c, many, rfl, rfl, by omega, ?_⟩⟩
    have z1 := Int.emod_nonneg c (show many ≠ 0 by omega)
    have z2 := Int.emod_lt_of_pos c (show 0 < many by omega)
    have := q1 (c % many) z1 z2
    rw [show (ini.map V.int ++ [V.int (c / (if many > 2 then many else 2))]) = (ini ++ [c / (if many > 2 then many else 2)]).map V.int by simp]
    exact this _ _ G R4.gr (.int _)
  · unfold tNext
    dsimp only
    refine ⟨.int number, hN', .int c, hC, .inl ⟨c, rfl, c, 2147483629, rfl, rfl, (show (0 : Int) < 2147483629 by decide), number, _, rfl, rfl, ?_⟩⟩
    exact q2 c _ _ _ G _ (R3.set_d (i := iN) (.int _)) fun _ _ h => h
theorem ss_dkIf {st : Stmt} {iD iM iN iC : Nat} (h : PS X st (tDkIf X.K iD iM iN iC)) : SS X F st (wDkIf iD iM iN iC) := ⟨ps_imp h fun _ _ _ q => dkIf_lift q, wDkIf_mono⟩
end
end DL
/-! what a text computes, as a function: Dlf -/
namespace DL
open PySem PySem.Spec L2
def Snd {α : Type} (w : Env' → (α → Prop) → Prop) (e : Env' → Option α) : Prop := ∀ ρ r, e ρ = some r → ∀ Q : α → Prop, Q r → w ρ Q
inductive Out where
  | nx (ρ : Env')
  | rt (d : PyData)
  | bk (ρ : Env')
  | ct (ρ : Env')
def Out.of (E : En) : Out → Prop
  | .nx ρ => E.nx ρ
  | .rt d => E.rt d
  | .bk ρ => E.bk ρ
  | .ct ρ => E.ct ρ
def SndS (w : WS) (e : Env' → Option Out) : Prop := ∀ ρ o, e ρ = some o → ∀ E : En, o.of E → w ρ E
abbrev Fn := List PyData → Option PyData
/-- a def of data alone, told by a function -/
def wf (f : Fn) : WF := fun ss Q _ => ∃ ds r, ss = ds.map Sl.d ∧ f ds = some r ∧ Q r
theorem m_wf {f} : MonoF (wf f) := fun ss Q Q' E E' k l ⟨ds, r, e, h, q⟩ => ⟨ds, r, e, h, k r q⟩
def asD : List Sl → Option (List PyData)
  | [] => some []
  | .d x :: ss => (asD ss).map (x :: ·)
  | _ :: _ => none
theorem asD_is : ∀ {ss : List Sl} {ds}, asD ss = some ds → ss = ds.map Sl.d
  | [], ds, h => by cases h; rfl
  | .d x :: ss, ds, h => by
    cases h1 : asD ss with
    | none => simp [asD, h1] at h
    | some es =>
      simp [asD, h1] at h
      rw [← h, asD_is h1]; rfl
  | .un :: _, _, h => by cases h
  | .l _ :: _, _, h => by cases h
  | .k _ :: _, _, h => by cases h
  | .t _ :: _, _, h => by cases h
  | .dk :: _, _, h => by cases h
def gtB : PyData → Option Bool
  | .bool b => some b
  | _ => none
theorem gtB_is {d b} (h : gtB d = some b) : d = .bool b := by
  cases d <;> simp_all [gtB]
def gtI : PyData → Option Int
  | .int b => some b
  | _ => none
theorem gtI_is {d b} (h : gtI d = some b) : d = .int b := by
  cases d <;> simp_all [gtI]
def gtL : PyData → Option (List PyData)
  | .list b => some b
  | _ => none
theorem gtL_is {d b} (h : gtL d = some b) : d = .list b := by
  cases d <;> simp_all [gtL]
def gtT : PyData → Option (List PyData)
  | .tuple b => some b
  | _ => none
theorem gtT_is {d b} (h : gtT d = some b) : d = .tuple b := by
  cases d <;> simp_all [gtT]
def gtS : PyData → Option Str
  | .str b => some b
  | _ => none
theorem gtS_is {d b} (h : gtS d = some b) : d = .str b := by
  cases d <;> simp_all [gtS]
/-! expressions -/
def eVar (i : Nat) : Env' → Option PyData := fun ρ => match ρ[i]? with
  | some (.d d) => some d
  | _ => none
theorem sVar {i : Nat} : Snd (wVar i) (eVar i) := by
  intro ρ r h Q q
  unfold eVar at h
  split at h
  · rename_i d e; cases h; exact ⟨_, e, q⟩
  · cases h
def eC (d : PyData) : Env' → Option PyData := fun _ => some d
theorem sC {d : PyData} : Snd (wC d) (eC d) := by
  intro ρ r h Q q; cases h; exact q
def e1 (f : PyData → Option PyData) (a : Env' → Option PyData) : Env' → Option PyData := fun ρ => (a ρ).bind f
theorem s1 {f wa a} (h : Snd wa a) : Snd (w1 f wa) (e1 f a) := by
  intro ρ r e Q q
  obtain ⟨x, e1, e2⟩ := Option.bind_eq_some_iff.mp e
  exact h ρ _ e1 _ ⟨_, e2, q⟩
def e2 (f : PyData → PyData → Option PyData) (a b : Env' → Option PyData) : Env' → Option PyData := fun ρ => (a ρ).bind fun x => (b ρ).bind fun y => f x y
theorem s2 {f wa a wb b} (h : Snd wa a) (h' : Snd wb b) : Snd (w2 f wa wb) (e2 f a b) := by
  intro ρ r e Q q
  obtain ⟨x, e1, e2⟩ := Option.bind_eq_some_iff.mp e
  obtain ⟨y, e2q, e3⟩ := Option.bind_eq_some_iff.mp e2
  exact h ρ _ e1 _ (h' ρ _ e2q _ ⟨_, e3, q⟩)
def eNeg (a : Env' → Option PyData) : Env' → Option PyData := e1 negD a
theorem sNeg {wa a} (h : Snd wa a) : Snd (wNeg wa) (eNeg a) := s1 h
def eTst (a : Env' → Option PyData) : Env' → Option Bool := fun ρ => (a ρ).bind gtB
theorem sTst {wa a} (h : Snd wa a) : Snd (wTst wa) (eTst a) := by
  intro ρ r e Q q
  obtain ⟨x, e1, e2⟩ := Option.bind_eq_some_iff.mp e
  exact h ρ _ e1 _ ⟨_, gtB_is e2, q⟩
def eNot (a : Env' → Option Bool) : Env' → Option Bool := fun ρ => (a ρ).map (!·)
theorem sNot {wa a} (h : Snd wa a) : Snd (wNot wa) (eNot a) := by
  intro ρ r e Q q
  obtain ⟨x, e1, rfl⟩ := Option.map_eq_some_iff.mp e
  exact h ρ _ e1 _ q
def eAnd (a b : Env' → Option Bool) : Env' → Option Bool := fun ρ => (a ρ).bind fun c => if c = true then b ρ else some false
theorem sAnd {wa a wb b} (h : Snd wa a) (h' : Snd wb b) : Snd (wAnd wa wb) (eAnd a b) := by
  intro ρ r e Q q
  obtain ⟨x, e1, e2⟩ := Option.bind_eq_some_iff.mp e
  refine h ρ _ e1 _ ?_
  cases x with
  | true => rw [if_pos rfl] at e2 ⊢; exact h' ρ _ e2 _ q
  | false => rw [if_neg Bool.false_ne_true] at e2 ⊢; cases e2; exact q
def eOr (a b : Env' → Option Bool) : Env' → Option Bool := fun ρ => (a ρ).bind fun c => if c = true then some true else b ρ
theorem sOr {wa a wb b} (h : Snd wa a) (h' : Snd wb b) : Snd (wOr wa wb) (eOr a b) := by
  intro ρ r e Q q
  obtain ⟨x, e1, e2⟩ := Option.bind_eq_some_iff.mp e
  refine h ρ _ e1 _ ?_
  cases x with
  | false => rw [if_neg Bool.false_ne_true] at e2 ⊢; exact h' ρ _ e2 _ q
  | true => rw [if_pos rfl] at e2 ⊢; cases e2; exact q
def eNotV (a : Env' → Option PyData) : Env' → Option PyData := fun ρ => (a ρ).bind fun x => (gtB x).map fun c => .bool (!c)
theorem sNotV {wa a} (h : Snd wa a) : Snd (wNotV wa) (eNotV a) := by
  intro ρ r e Q q
  obtain ⟨x, e1, e2⟩ := Option.bind_eq_some_iff.mp e
  obtain ⟨c, e2q, rfl⟩ := Option.map_eq_some_iff.mp e2
  exact h ρ _ e1 _ ⟨_, gtB_is e2q, q⟩
def eAndV (a b : Env' → Option PyData) : Env' → Option PyData := fun ρ => (a ρ).bind fun x => (gtB x).bind fun c => if c = true then b ρ else some (.bool false)
theorem sAndV {wa a wb b} (h : Snd wa a) (h' : Snd wb b) : Snd (wAndV wa wb) (eAndV a b) := by
  intro ρ r e Q q
  obtain ⟨x, e1, e2⟩ := Option.bind_eq_some_iff.mp e
  obtain ⟨c, e2q, e3⟩ := Option.bind_eq_some_iff.mp e2
  refine h ρ _ e1 _ ⟨c, gtB_is e2q, ?_⟩
  cases c with
  | true => rw [if_pos rfl] at e3 ⊢; exact h' ρ _ e3 _ q
  | false => rw [if_neg Bool.false_ne_true] at e3 ⊢; cases e3; exact q
def eOrV (a b : Env' → Option PyData) : Env' → Option PyData := fun ρ => (a ρ).bind fun x => (gtB x).bind fun c => if c = true then some (.bool true) else b ρ
theorem sOrV {wa a wb b} (h : Snd wa a) (h' : Snd wb b) : Snd (wOrV wa wb) (eOrV a b) := by
  intro ρ r e Q q
  obtain ⟨x, e1, e2⟩ := Option.bind_eq_some_iff.mp e
  obtain ⟨c, e2q, e3⟩ := Option.bind_eq_some_iff.mp e2
  refine h ρ _ e1 _ ⟨c, gtB_is e2q, ?_⟩
  cases c with
  | false => rw [if_neg Bool.false_ne_true] at e3 ⊢; exact h' ρ _ e3 _ q
  | true => rw [if_pos rfl] at e3 ⊢; cases e3; exact q
def eIf (t : Env' → Option Bool) (a b : Env' → Option PyData) : Env' → Option PyData := fun ρ => (t ρ).bind fun c => if c = true then a ρ else b ρ
theorem sIf {wt t wa a wb b} (ht : Snd wt t) (h : Snd wa a) (h' : Snd wb b) : Snd (wIf wt wa wb) (eIf t a b) := by
  intro ρ r e Q q
  obtain ⟨x, e1, e2⟩ := Option.bind_eq_some_iff.mp e
  refine ht ρ _ e1 _ ?_
  cases x with
  | true => rw [if_pos rfl] at e2 ⊢; exact h ρ _ e2 _ q
  | false => rw [if_neg Bool.false_ne_true] at e2 ⊢; exact h' ρ _ e2 _ q
def eIsi (f : PyData → Bool) (a : Env' → Option PyData) : Env' → Option PyData := fun ρ => (a ρ).map fun x => .bool (f x)
theorem sIsi {f wa a} (h : Snd wa a) : Snd (wIsi f wa) (eIsi f a) := by
  intro ρ r e Q q
  obtain ⟨x, e1, rfl⟩ := Option.map_eq_some_iff.mp e
  exact h ρ _ e1 _ q
def eNil : Env' → Option (List PyData) := fun _ => some []
theorem sNil : Snd wNil eNil := by
  intro ρ r h Q q; cases h; exact q
def eCons (a : Env' → Option PyData) (b : Env' → Option (List PyData)) : Env' → Option (List PyData) := fun ρ => (a ρ).bind fun x => (b ρ).map (x :: ·)
theorem sCons {wa a wb b} (h : Snd wa a) (h' : Snd wb b) : Snd (wCons wa wb) (eCons a b) := by
  intro ρ r e Q q
  obtain ⟨x, e1, e2⟩ := Option.bind_eq_some_iff.mp e
  obtain ⟨xs, e2q, rfl⟩ := Option.map_eq_some_iff.mp e2
  exact h ρ _ e1 _ (h' ρ _ e2q _ q)
def eCl (f : List PyData → Option PyData) (b : Env' → Option (List PyData)) : Env' → Option PyData := fun ρ => (b ρ).bind f
theorem sCl {f wb b} (h : Snd wb b) : Snd (wCl f wb) (eCl f b) := by
  intro ρ r e Q q
  obtain ⟨x, e1, e2⟩ := Option.bind_eq_some_iff.mp e
  exact h ρ _ e1 _ ⟨_, e2, q⟩
def eTup (b : Env' → Option (List PyData)) : Env' → Option PyData := fun ρ => (b ρ).bind fun xs => if xs.length ≤ sizeLine then some (.tuple xs) else none
theorem sTup {wb b} (h : Snd wb b) : Snd (wTup wb) (eTup b) := by
  intro ρ r e Q q
  obtain ⟨x, e1, e2⟩ := Option.bind_eq_some_iff.mp e
  split at e2
  · cases e2; exact h ρ _ e1 _ ⟨‹_›, q⟩
  · cases e2
def eLst (b : Env' → Option (List PyData)) : Env' → Option (List PyData) := fun ρ => (b ρ).bind fun xs => if xs.length ≤ sizeLine then some xs else none
theorem sLst {wb b} (h : Snd wb b) : Snd (wLst wb) (eLst b) := by
  intro ρ r e Q q
  obtain ⟨x, e1, e2⟩ := Option.bind_eq_some_iff.mp e
  split at e2
  · cases e2; exact h ρ _ e1 _ ⟨‹_›, q⟩
  · cases e2
def eAsL (b : Env' → Option (List PyData)) : Env' → Option PyData := fun ρ => (b ρ).map .list
theorem sAsL {wb b} (h : Snd wb b) : Snd (wAsL wb) (eAsL b) := by
  intro ρ r e Q q
  obtain ⟨x, e1, rfl⟩ := Option.map_eq_some_iff.mp e
  exact h ρ _ e1 _ q
def eBor (i : Nat) (a : Env' → Option PyData) : Env' → Option PyData := fun ρ => (a (frz i ρ)).bind fun d => if noL d = true then some d else none
theorem sBor {i wa a} (h : Snd wa a) : Snd (wBor i wa) (eBor i a) := by
  intro ρ r e Q q
  obtain ⟨x, e1, e2⟩ := Option.bind_eq_some_iff.mp e
  split at e2
  · cases e2; exact h _ _ e1 _ ⟨‹_›, q⟩
  · cases e2
def eBorT (i : Nat) (a : Env' → Option Bool) : Env' → Option Bool := fun ρ => a (frz i ρ)
theorem sBorT {i wa a} (h : Snd wa a) : Snd (wBorT i wa) (eBorT i a) := fun ρ r e Q q => h _ _ e _ q
def eNoO : Env' → Option (Option Int) := fun _ => some none
theorem sNoO : Snd wNoO eNoO := by
  intro ρ r h Q q; cases h; exact q
def eO (a : Env' → Option PyData) : Env' → Option (Option Int) := fun ρ => (a ρ).bind fun x => (gtI x).map some
theorem sO {wa a} (h : Snd wa a) : Snd (wO wa) (eO a) := by
  intro ρ r e Q q
  obtain ⟨x, e1, e2⟩ := Option.bind_eq_some_iff.mp e
  obtain ⟨c, e2q, rfl⟩ := Option.map_eq_some_iff.mp e2
  exact h ρ _ e1 _ ⟨_, gtI_is e2q, q⟩
def eSl (a : Env' → Option PyData) (l u : Env' → Option (Option Int)) : Env' → Option PyData := fun ρ => (a ρ).bind fun x => (l ρ).bind fun lo => (u ρ).bind fun hi => slD x lo hi
theorem sSl {wa a wl l wu u} (h : Snd wa a) (hl : Snd wl l) (hu : Snd wu u) : Snd (wSl wa wl wu) (eSl a l u) := by
  intro ρ r e Q q
  obtain ⟨x, e1, e2⟩ := Option.bind_eq_some_iff.mp e
  obtain ⟨y, e2q, e3⟩ := Option.bind_eq_some_iff.mp e2
  obtain ⟨z, e3q, e4⟩ := Option.bind_eq_some_iff.mp e3
  exact h ρ _ e1 _ (hl ρ _ e2q _ (hu ρ _ e3q _ ⟨_, e4, q⟩))
def eStep (c : Int) (a : Env' → Option PyData) (l : Env' → Option (Option Int)) : Env' → Option PyData := fun ρ => (a ρ).bind fun x => (l ρ).bind fun lo => (gtL x).map fun xs => .list (pick (stepIx lo c xs.length) xs)
theorem sStep {c wa a wl l} (h : Snd wa a) (hl : Snd wl l) : Snd (wStep c wa wl) (eStep c a l) := by
  intro ρ r e Q q
  obtain ⟨x, e1, e2⟩ := Option.bind_eq_some_iff.mp e
  obtain ⟨y, e2q, e3⟩ := Option.bind_eq_some_iff.mp e2
  obtain ⟨z, e3q, rfl⟩ := Option.map_eq_some_iff.mp e3
  exact h ρ _ e1 _ (hl ρ _ e2q _ ⟨_, gtL_is e3q, q⟩)
def eZipL (a b : Env' → Option PyData) : Env' → Option (List PyData) := fun ρ => (a ρ).bind fun x => (b ρ).bind fun y => (gtL x).bind fun xs => (gtL y).map fun ys => zipD xs ys
theorem sZipL {wa a wb b} (h : Snd wa a) (h' : Snd wb b) : Snd (wZipL wa wb) (eZipL a b) := by
  intro ρ r e Q q
  obtain ⟨x, e1, e2⟩ := Option.bind_eq_some_iff.mp e
  obtain ⟨y, e2q, e3⟩ := Option.bind_eq_some_iff.mp e2
  obtain ⟨z, e3q, e4⟩ := Option.bind_eq_some_iff.mp e3
  obtain ⟨u, e4q, rfl⟩ := Option.map_eq_some_iff.mp e4
  exact h ρ _ e1 _ (h' ρ _ e2q _ ⟨_, _, gtL_is e3q, gtL_is e4q, q⟩)
def eMt (T : String) (f : PyData → List PyData → Option PyData) (a : Env' → Option PyData) (b : Env' → Option (List PyData)) : Env' → Option PyData := fun ρ => (a ρ).bind fun x => if tyD x = T then (b ρ).bind fun xs => f x xs else none
theorem sMt {T f wa a wb b} (h : Snd wa a) (h' : Snd wb b) : Snd (wMt T f wa wb) (eMt T f a b) := by
  intro ρ r e Q q
  obtain ⟨x, e1, e2⟩ := Option.bind_eq_some_iff.mp e
  split at e2
  · obtain ⟨y, e2, e3⟩ := Option.bind_eq_some_iff.mp e2
    exact h ρ _ e1 _ ⟨‹_›, h' ρ _ e2 _ ⟨_, e3, q⟩⟩
  · cases e2
def eChain (f f' : PyData → PyData → Option PyData) (a b c : Env' → Option PyData) : Env' → Option PyData := fun ρ => (a ρ).bind fun x => (b ρ).bind fun y => (f x y).bind fun k => (gtB k).bind fun k => if k = true then (c ρ).bind fun z => f' y z else some (.bool false)
theorem sChain {f f' wa a wb b wc c} (h : Snd wa a) (h' : Snd wb b) (h'' : Snd wc c) : Snd (wChain f f' wa wb wc) (eChain f f' a b c) := by
  intro ρ r e Q q
  obtain ⟨x, e1, e2⟩ := Option.bind_eq_some_iff.mp e
  obtain ⟨y, e2q, e3⟩ := Option.bind_eq_some_iff.mp e2
  obtain ⟨k, e3q, e4⟩ := Option.bind_eq_some_iff.mp e3
  obtain ⟨b, e4q, e5⟩ := Option.bind_eq_some_iff.mp e4
  refine h ρ _ e1 _ (h' ρ _ e2q _ ⟨b, by rw [e3q, gtB_is e4q], ?_⟩)
  cases b with
  | true =>
    rw [if_pos rfl] at e5 ⊢
    obtain ⟨z, e5q, e6⟩ := Option.bind_eq_some_iff.mp e5
    exact h'' ρ _ e5q _ ⟨_, e6, q⟩
  | false => rw [if_neg Bool.false_ne_true] at e5 ⊢; cases e5; exact q
def eGetO (i : Nat) (a b : Env' → Option PyData) : Env' → Option PyData := fun ρ => match ρ[i]? with
  | some (.k kvs) => (a ρ).bind fun k => (b ρ).bind fun d => (gtS k).map fun z => (valD kvs (.inr z)).getD d
  | _ => none
theorem sGetO {i wa a wb b} (h : Snd wa a) (h' : Snd wb b) : Snd (wGetO i wa wb) (eGetO i a b) := by
  intro ρ r e Q q
  unfold eGetO at e
  split at e
  · rename_i kvs e0
    obtain ⟨x, e1, e2⟩ := Option.bind_eq_some_iff.mp e
    obtain ⟨y, e2q, e3⟩ := Option.bind_eq_some_iff.mp e2
    obtain ⟨z, e3q, rfl⟩ := Option.map_eq_some_iff.mp e3
    exact ⟨kvs, e0, h ρ _ e1 _ (h' ρ _ e2q _ ⟨_, gtS_is e3q, q⟩)⟩
  · cases e
def eIxO (i : Nat) (b : Env' → Option PyData) : Env' → Option PyData := fun ρ => match ρ[i]? with
  | some (.l xs) => (b ρ).bind fun y => (gtI y).bind fun k => atI xs k
  | _ => none
theorem sIxO {i wb b} (h : Snd wb b) : Snd (wIxO i wb) (eIxO i b) := by
  intro ρ r e Q q
  unfold eIxO at e
  split at e
  · rename_i kvs e0
    obtain ⟨x, e1, e2⟩ := Option.bind_eq_some_iff.mp e
    obtain ⟨y, e2q, e3⟩ := Option.bind_eq_some_iff.mp e2
    exact ⟨kvs, e0, h ρ _ e1 _ ⟨_, _, gtI_is e2q, e3, q⟩⟩
  · cases e
/-! what is gone through -/
def eIL (a : Env' → Option PyData) : Env' → Option (List PyData) := fun ρ => (a ρ).bind gtL
theorem sIL {wa a} (h : Snd wa a) : Snd (wIL wa) (eIL a) := by
  intro ρ r e Q q
  obtain ⟨x, e1, e2⟩ := Option.bind_eq_some_iff.mp e
  exact h ρ _ e1 _ ⟨_, gtL_is e2, q⟩
def eIT (a : Env' → Option PyData) : Env' → Option (List PyData) := fun ρ => (a ρ).bind gtT
theorem sIT {wa a} (h : Snd wa a) : Snd (wIT wa) (eIT a) := by
  intro ρ r e Q q
  obtain ⟨x, e1, e2⟩ := Option.bind_eq_some_iff.mp e
  exact h ρ _ e1 _ ⟨_, gtT_is e2, q⟩
def eIS (a : Env' → Option PyData) : Env' → Option (List PyData) := fun ρ => (a ρ).bind fun x => (gtS x).map signsD
theorem sIS {wa a} (h : Snd wa a) : Snd (wIS wa) (eIS a) := by
  intro ρ r e Q q
  obtain ⟨x, e1, e2⟩ := Option.bind_eq_some_iff.mp e
  obtain ⟨z, e2q, rfl⟩ := Option.map_eq_some_iff.mp e2
  exact h ρ _ e1 _ ⟨_, gtS_is e2q, q⟩
def eEnT (a : Env' → Option PyData) : Env' → Option (List PyData) := fun ρ => (a ρ).bind fun x => (gtT x).map enumD
theorem sEnT {wa a} (h : Snd wa a) : Snd (wEnT wa) (eEnT a) := by
  intro ρ r e Q q
  obtain ⟨x, e1, e2⟩ := Option.bind_eq_some_iff.mp e
  obtain ⟨z, e2q, rfl⟩ := Option.map_eq_some_iff.mp e2
  exact h ρ _ e1 _ ⟨_, gtT_is e2q, q⟩
/-- a test that a kernel leaves alone where it cannot decide it -/
def smallJ : Int → Bool
  | .ofNat n => Nat.ble n 1099511627776
  | .negSucc n => Nat.ble n 1099511627776
theorem smallJ_is {i : Int} (h : smallJ i = true) : smallI i := by
  have h1 : (1099511627776 : Int) < 2 ^ 62 := by decide
  have h2 : -(2 ^ 62 : Int) < -1099511627778 := by decide
  unfold smallI
  cases i with
  | ofNat n =>
    have := Nat.le_of_ble_eq_true h
    constructor
    · exact Int.le_trans (Int.le_of_lt h2) (by show _ ≤ (n : Int); omega)
    · exact Int.lt_of_le_of_lt (by show (n : Int) ≤ _; omega) h1
  | negSucc n =>
    have := Nat.le_of_ble_eq_true h
    constructor
    · exact Int.le_trans (Int.le_of_lt h2) (by rw [Int.negSucc_eq]; omega)
    · exact Int.lt_of_le_of_lt (by rw [Int.negSucc_eq]; omega) h1
theorem smallJ_nat {n : Nat} (h : n ≤ 65536) : smallJ (n : Int) = true := Nat.ble_eq_true_of_le (Nat.le_trans h (by decide))
def eR1 (a : Env' → Option PyData) : Env' → Option (List PyData) := fun ρ => (a ρ).bind fun x => (gtI x).bind fun j => if smallJ j = true then some (rangeD 0 j.toNat) else none
theorem sR1 {wa a} (h : Snd wa a) : Snd (wR1 wa) (eR1 a) := by
  intro ρ r e Q q
  obtain ⟨x, e1, e2⟩ := Option.bind_eq_some_iff.mp e
  obtain ⟨z, e2q, e3⟩ := Option.bind_eq_some_iff.mp e2
  split at e3
  · cases e3; exact h ρ _ e1 _ ⟨_, gtI_is e2q, smallJ_is ‹_›, q⟩
  · cases e3
def eListOf (a : Env' → Option PyData) : Env' → Option (List PyData) := fun ρ => (a ρ).bind fun x => (listD [x]).bind gtL
theorem sListOf {wa a} (h : Snd wa a) : Snd (wListOf wa) (eListOf a) := by
  intro ρ r e Q q
  obtain ⟨x, e1, e2⟩ := Option.bind_eq_some_iff.mp e
  obtain ⟨z, e2q, e3⟩ := Option.bind_eq_some_iff.mp e2
  exact h ρ _ e1 _ ⟨_, by rw [e2q, gtL_is e3], q⟩
def eYes : Env' → Option Bool := fun _ => some true
theorem sYes : Snd wYes eYes := by
  intro ρ r h Q q; cases h; exact q
def lcF (g : PyData → Option Env') (t : Env' → Option Bool) (e : Env' → Option PyData) : List PyData → Option (List PyData)
  | [] => some []
  | d :: ds => (g d).bind fun ρ' => (t ρ').bind fun b => if b = true then (e ρ').bind fun y => (lcF g t e ds).map (y :: ·) else lcF g t e ds
theorem lcF_len {g t e} : ∀ {ds ys}, lcF g t e ds = some ys → ys.length ≤ ds.length
  | [], ys, h => by cases h; exact Nat.le_refl _
  | d :: ds, ys, h => by
    obtain ⟨ρ', e1, h⟩ := Option.bind_eq_some_iff.mp h
    obtain ⟨b, e2, h⟩ := Option.bind_eq_some_iff.mp h
    split at h
    · obtain ⟨y, e3, h⟩ := Option.bind_eq_some_iff.mp h
      obtain ⟨zs, e4, rfl⟩ := Option.map_eq_some_iff.mp h
      have := lcF_len e4
      simp; omega
    · have := lcF_len h
      simp; omega
def eLc (vs : List Nat) (wi : Env' → Option (List PyData)) (g : PyData → Env' → Option Env') (t : Env' → Option Bool) (e : Env' → Option PyData) : Env' → Option (List PyData) := fun ρ => (wi ρ).bind fun items => (lcF (fun d => g d (unAll vs ρ)) t e items).bind fun ys => if ys.length ≤ sizeLine then some ys else none
theorem lcF_run {vs g wt t we e} (ht : Snd wt t) (he : Snd we e) {ρ : Env'} : ∀ (ds ys acc : List PyData), lcF (fun d => g d (unAll vs ρ)) t e ds = some ys → acc.length + ys.length ≤ sizeLine → ∀ Q : List PyData → Prop, Q (acc ++ ys) → lcD vs g wt we ρ Q ds acc
  | [], ys, acc, h, z, Q, q => by
    cases h; simpa [lcD] using q
  | d :: ds, ys, acc, h, z, Q, q => by
    obtain ⟨ρ', e1, h⟩ := Option.bind_eq_some_iff.mp h
    obtain ⟨b, e2, h⟩ := Option.bind_eq_some_iff.mp h
    refine ⟨ρ', e1, ht _ _ e2 _ ?_⟩
    cases b with
    | true =>
      rw [if_pos rfl] at h ⊢
      obtain ⟨y, e3, h⟩ := Option.bind_eq_some_iff.mp h
      obtain ⟨zs, e4, rfl⟩ := Option.map_eq_some_iff.mp h
      simp only [List.length_cons] at z
      refine he _ _ e3 _ ⟨by omega, lcF_run ht he ds zs _ e4 (by simp; omega) Q (by simpa using q)⟩
    | false =>
      rw [if_neg Bool.false_ne_true] at h ⊢
      exact lcF_run ht he ds ys _ h z Q q
theorem sLc {vs wi i g wt t we e} (hi : Snd wi i) (ht : Snd wt t) (he : Snd we e) : Snd (wLc vs wi g wt we) (eLc vs i g t e) := by
  intro ρ r h Q q
  obtain ⟨items, e1, h⟩ := Option.bind_eq_some_iff.mp h
  obtain ⟨ys, e2, h⟩ := Option.bind_eq_some_iff.mp h
  split at h
  · cases h
    exact hi _ _ e1 _ (lcF_run ht he _ _ [] e2 (by simpa using ‹_›) Q (by simpa using q))
  · cases h
def lc2F (g : PyData → Option Env') (t : Env' → Option Bool) (i1 : Env' → Option (List PyData)) (rest : Env' → List PyData → Option (List PyData)) : List PyData → Option (List PyData)
  | [] => some []
  | d :: ds => (g d).bind fun ρ' => (t ρ').bind fun b => if b = true then (i1 ρ').bind fun items => (rest (noOwn ρ') items).bind fun ys => (lc2F g t i1 rest ds).map (ys ++ ·) else lc2F g t i1 rest ds
def eLc2 (vs vs1 : List Nat) (wi : Env' → Option (List PyData)) (g : PyData → Env' → Option Env') (t : Env' → Option Bool) (i1 : Env' → Option (List PyData)) (g1 : PyData → Env' → Option Env') (t1 : Env' → Option Bool) (e : Env' → Option PyData) : Env' → Option (List PyData) := fun ρ => (wi ρ).bind fun items => (lc2F (fun d => g d (unAll vs ρ)) t i1 (fun ρ' => lcF (fun d => g1 d (unAll vs1 ρ')) t1 e) items).bind fun ys => if ys.length ≤ sizeLine then some ys else none
theorem inF_run {vs1 g1 wt1 t1 we e} (ht : Snd wt1 t1) (he : Snd we e) {ρ : Env'} : ∀ (ds ys acc : List PyData), lcF (fun d => g1 d (unAll vs1 ρ)) t1 e ds = some ys → acc.length + ys.length ≤ sizeLine → ∀ Q : List PyData → Prop, Q (acc ++ ys) → inD vs1 g1 wt1 we ρ Q ds acc
  | [], ys, acc, h, z, Q, q => by
    cases h; simpa [inD] using q
  | d :: ds, ys, acc, h, z, Q, q => by
    obtain ⟨ρ', e1, h⟩ := Option.bind_eq_some_iff.mp h
    obtain ⟨b, e2, h⟩ := Option.bind_eq_some_iff.mp h
    refine ⟨ρ', e1, ht _ _ e2 _ ?_⟩
    cases b with
    | true =>
      rw [if_pos rfl] at h ⊢
      obtain ⟨y, e3, h⟩ := Option.bind_eq_some_iff.mp h
      obtain ⟨zs, e4, rfl⟩ := Option.map_eq_some_iff.mp h
      simp only [List.length_cons] at z
      refine he _ _ e3 _ ⟨by omega, inF_run ht he ds zs _ e4 (by simp; omega) Q (by simpa using q)⟩
    | false =>
      rw [if_neg Bool.false_ne_true] at h ⊢
      exact inF_run ht he ds ys _ h z Q q
theorem lc2F_run {vs vs1 g wt t wi1 i1 g1 wt1 t1 we e} (ht : Snd wt t) (hi : Snd wi1 i1) (ht1 : Snd wt1 t1) (he : Snd we e) {ρ : Env'} : ∀ (ds ys acc : List PyData), lc2F (fun d => g d (unAll vs ρ)) t i1 (fun ρ' => lcF (fun d => g1 d (unAll vs1 ρ')) t1 e) ds = some ys → acc.length + ys.length ≤ sizeLine → ∀ Q : List PyData → Prop, Q (acc ++ ys) → lc2D vs vs1 g wt wi1 g1 wt1 we ρ Q ds acc
  | [], ys, acc, h, z, Q, q => by
    cases h; simpa [lc2D] using q
  | d :: ds, ys, acc, h, z, Q, q => by
    obtain ⟨ρ', e1, h⟩ := Option.bind_eq_some_iff.mp h
    obtain ⟨b, e2, h⟩ := Option.bind_eq_some_iff.mp h
    refine ⟨ρ', e1, ht _ _ e2 _ ?_⟩
    cases b with
    | true =>
      rw [if_pos rfl] at h ⊢
      obtain ⟨items, e3, h⟩ := Option.bind_eq_some_iff.mp h
      obtain ⟨ws, e4, h⟩ := Option.bind_eq_some_iff.mp h
      obtain ⟨zs, e5, rfl⟩ := Option.map_eq_some_iff.mp h
      simp only [List.length_append] at z
      exact hi _ _ e3 _ (inF_run ht1 he _ _ _ e4 (by omega) _ (lc2F_run ht hi ht1 he ds zs _ e5 (by simp; omega) Q (by simpa using q)))
    | false =>
      rw [if_neg Bool.false_ne_true] at h ⊢
      exact lc2F_run ht hi ht1 he ds ys _ h z Q q
theorem sLc2 {vs vs1 wi i g wt t wi1 i1 g1 wt1 t1 we e} (h0 : Snd wi i) (ht : Snd wt t) (hi : Snd wi1 i1) (ht1 : Snd wt1 t1) (he : Snd we e) : Snd (wLc2 vs vs1 wi g wt wi1 g1 wt1 we) (eLc2 vs vs1 i g t i1 g1 t1 e) := by
  intro ρ r h Q q
  obtain ⟨items, e1, h⟩ := Option.bind_eq_some_iff.mp h
  obtain ⟨ys, e2, h⟩ := Option.bind_eq_some_iff.mp h
  split at h
  · cases h
    exact h0 _ _ e1 _ (lc2F_run ht hi ht1 he _ _ [] e2 (by simpa using ‹_›) Q (by simpa using q))
  · cases h
/-! calls -/
def epNil : Env' → Option (List PyData) := fun _ => some []
def epD (a : Env' → Option PyData) (b : Env' → Option (List PyData)) : Env' → Option (List PyData) := fun ρ => (a ρ).bind fun x => (b ρ).map (x :: ·)
def SndP (w : WP) (e : Env' → Option (List PyData)) : Prop := ∀ ρ r, e ρ = some r → ∀ Q : List Sl → Prop, Q (r.map Sl.d) → w ρ Q
theorem spNil : SndP pNil epNil := by
  intro ρ r h Q q; cases h; exact q
theorem spD_ {wa a wb b} (h : Snd wa a) (h' : SndP wb b) : SndP (pD wa wb) (epD a b) := by
  intro ρ r e Q q
  obtain ⟨x, e1, e2⟩ := Option.bind_eq_some_iff.mp e
  obtain ⟨xs, e2q, rfl⟩ := Option.map_eq_some_iff.mp e2
  exact h ρ _ e1 _ (h' ρ _ e2q _ q)
def eLen (n : Nat) (b : Env' → Option (List PyData)) : Env' → Option (List PyData) := fun ρ => (b ρ).bind fun xs => if xs.length = n then some xs else none
theorem sLen {n wb b} (h : SndP wb b) : SndP (wLen n wb) (eLen n b) := by
  intro ρ r e Q q
  obtain ⟨x, e1, e2⟩ := Option.bind_eq_some_iff.mp e
  split at e2
  · cases e2; exact h ρ _ e1 _ ⟨by simpa using ‹_›, q⟩
  · cases e2
def eCall (f : Fn) (b : Env' → Option (List PyData)) : Env' → Option PyData := fun ρ => (b ρ).bind f
theorem sCall {f wb b Ex} (h : SndP wb b) : Snd (wCall (wf f) wb Ex) (eCall f b) := by
  intro ρ r e Q q
  obtain ⟨x, e1, e2⟩ := Option.bind_eq_some_iff.mp e
  exact h ρ _ e1 _ ⟨_, _, rfl, e2, q⟩
/-! slots -/
def evD (a : Env' → Option PyData) : Env' → Option Sl := fun ρ => (a ρ).map .d
theorem svD {wa a} (h : Snd wa a) : Snd (vD wa) (evD a) := by
  intro ρ r e Q q
  obtain ⟨x, e1, rfl⟩ := Option.map_eq_some_iff.mp e
  exact h ρ _ e1 _ q
def evL (a : Env' → Option (List PyData)) : Env' → Option Sl := fun ρ => (a ρ).map .l
theorem svL {wa a} (h : Snd wa a) : Snd (vL wa) (evL a) := by
  intro ρ r e Q q
  obtain ⟨x, e1, rfl⟩ := Option.map_eq_some_iff.mp e
  exact h ρ _ e1 _ q
def evDisp (kvs : SI') : Env' → Option Sl := fun _ => some (.k (keysOf kvs))
theorem svDisp {kvs : SI'} : Snd (vDisp kvs) (evDisp kvs) := by
  intro ρ r h Q q; cases h; exact q
def evNil : Env' → Option (List Sl) := fun _ => some []
theorem svNil : Snd vNil evNil := by
  intro ρ r h Q q; cases h; exact q
def evCons (a : Env' → Option Sl) (b : Env' → Option (List Sl)) : Env' → Option (List Sl) := fun ρ => (a ρ).bind fun x => (b ρ).map (x :: ·)
theorem svCons {wa a wb b} (h : Snd wa a) (h' : Snd wb b) : Snd (vCons wa wb) (evCons a b) := by
  intro ρ r e Q q
  obtain ⟨x, e1, e2⟩ := Option.bind_eq_some_iff.mp e
  obtain ⟨xs, e2q, rfl⟩ := Option.map_eq_some_iff.mp e2
  exact h ρ _ e1 _ (h' ρ _ e2q _ q)
/-! statements -/
def eNext : Env' → Option Out := fun ρ => some (.nx ρ)
theorem sNext : SndS wNext eNext := by
  intro ρ o h E q; cases h; exact q
def eBrk : Env' → Option Out := fun ρ => some (.bk ρ)
theorem sBrk : SndS wBrk eBrk := by
  intro ρ o h E q; cases h; exact q
def eCnt : Env' → Option Out := fun ρ => some (.ct ρ)
theorem sCnt : SndS wCnt eCnt := by
  intro ρ o h E q; cases h; exact q
def eSeq (a b : Env' → Option Out) : Env' → Option Out := fun ρ => (a ρ).bind fun o => match o with
  | .nx ρ' => b ρ'
  | o => some o
theorem sSeq {wa a wb b} (h : SndS wa a) (h' : SndS wb b) : SndS (wSeq wa wb) (eSeq a b) := by
  intro ρ o e E q
  obtain ⟨x, e1, e2⟩ := Option.bind_eq_some_iff.mp e
  refine h ρ _ e1 _ ?_
  cases x with
  | nx ρ' => exact h' ρ' _ e2 E q
  | rt d => cases e2; exact q
  | bk d => cases e2; exact q
  | ct d => cases e2; exact q
def eRet (a : Env' → Option PyData) : Env' → Option Out := fun ρ => (a ρ).map .rt
theorem sRet {wa a} (h : Snd wa a) : SndS (wRet wa) (eRet a) := by
  intro ρ o e E q
  obtain ⟨x, e1, rfl⟩ := Option.map_eq_some_iff.mp e
  exact h ρ _ e1 _ q
def eDrop (a : Env' → Option PyData) : Env' → Option Out := fun ρ => (a ρ).map fun _ => .nx ρ
theorem sDrop {wa a} (h : Snd wa a) : SndS (wDrop wa) (eDrop a) := by
  intro ρ o e E q
  obtain ⟨x, e1, rfl⟩ := Option.map_eq_some_iff.mp e
  exact h ρ _ e1 _ q
def eIfS (t : Env' → Option Bool) (a b : Env' → Option Out) : Env' → Option Out := fun ρ => (t ρ).bind fun c => if c = true then a ρ else b ρ
theorem sIfS {wt t wa a wb b} (ht : Snd wt t) (h : SndS wa a) (h' : SndS wb b) : SndS (wIfS wt wa wb) (eIfS t a b) := by
  intro ρ o e E q
  obtain ⟨x, e1, e2⟩ := Option.bind_eq_some_iff.mp e
  refine ht ρ _ e1 _ ?_
  cases x with
  | true => rw [if_pos rfl] at e2 ⊢; exact h ρ _ e2 _ q
  | false => rw [if_neg Bool.false_ne_true] at e2 ⊢; exact h' ρ _ e2 _ q
def eFrz (i : Nat) (a : Env' → Option Out) : Env' → Option Out := fun ρ => a (frz i ρ)
theorem sFrz {i wa a} (h : SndS wa a) : SndS (wFrz i wa) (eFrz i a) := fun ρ o e E q => h _ _ e _ q
def eAsg (i : Nat) (a : Env' → Option Sl) : Env' → Option Out := fun ρ => (a ρ).map fun s => .nx (ρ.set i s)
theorem sAsg {i wa a} (h : Snd wa a) : SndS (wAsg i wa) (eAsg i a) := by
  intro ρ o e E q
  obtain ⟨x, e1, rfl⟩ := Option.map_eq_some_iff.mp e
  exact h ρ _ e1 _ q
def ePar (i j : Nat) (a : Env' → Option (List Sl)) : Env' → Option Out := fun ρ => (a ρ).bind fun ss => match ss with
  | [s, t] => some (.nx ((ρ.set i s).set j t))
  | _ => none
theorem sPar {i j wa a} (h : Snd wa a) : SndS (wPar i j wa) (ePar i j a) := by
  intro ρ o e E q
  obtain ⟨x, e1, e2⟩ := Option.bind_eq_some_iff.mp e
  refine h ρ _ e1 _ ?_
  split at e2
  · cases e2; exact ⟨_, _, rfl, q⟩
  · cases e2
def eAsgG (g : PyData → Env' → Option Env') (a : Env' → Option PyData) : Env' → Option Out := fun ρ => (a ρ).bind fun d => (g d ρ).map .nx
theorem sAsgG {g wa a} (h : Snd wa a) : SndS (wAsgG g wa) (eAsgG g a) := by
  intro ρ o e E q
  obtain ⟨x, e1, e2⟩ := Option.bind_eq_some_iff.mp e
  obtain ⟨y, e2q, rfl⟩ := Option.map_eq_some_iff.mp e2
  exact h ρ _ e1 _ ⟨_, e2q, q⟩
def eApp (i : Nat) (a : Env' → Option PyData) : Env' → Option Out := fun ρ => match ρ[i]? with
  | some (.l xs) => (a ρ).bind fun d => if xs.length < sizeLine then some (.nx (ρ.set i (.l (xs ++ [d])))) else none
  | _ => none
theorem sApp {i wa a} (h : Snd wa a) : SndS (wApp i wa) (eApp i a) := by
  intro ρ o e E q
  unfold eApp at e
  split at e
  · rename_i xs e0
    obtain ⟨x, e1, e2⟩ := Option.bind_eq_some_iff.mp e
    refine ⟨xs, e0, h ρ _ e1 _ ?_⟩
    split at e2
    · cases e2; exact ⟨‹_›, q⟩
    · cases e2
  · cases e
def eExt (i : Nat) (a : Env' → Option PyData) : Env' → Option Out := fun ρ => match ρ[i]? with
  | some (.l xs) => (a ρ).bind fun d => (listD [d]).bind fun l => (gtL l).bind fun ys => if xs.length + ys.length ≤ sizeLine then some (.nx (ρ.set i (.l (xs ++ ys)))) else none
  | _ => none
theorem sExt {i wa a} (h : Snd wa a) : SndS (wExt i wa) (eExt i a) := by
  intro ρ o e E q
  unfold eExt at e
  split at e
  · rename_i xs e0
    obtain ⟨x, e1, e2⟩ := Option.bind_eq_some_iff.mp e
    obtain ⟨l, e2q, e3⟩ := Option.bind_eq_some_iff.mp e2
    obtain ⟨ys, e3q, e4⟩ := Option.bind_eq_some_iff.mp e3
    refine ⟨xs, e0, h ρ _ e1 _ ⟨ys, by rw [e2q, gtL_is e3q], ?_⟩⟩
    split at e4
    · cases e4; exact ⟨‹_›, q⟩
    · cases e4
  · cases e
def ePop (i : Nat) (g : PyData → Env' → Option Env') : Env' → Option Out := fun ρ => match ρ[i]? with
  | some (.l xs) => match xs.getLast? with
    | some d => (g d (ρ.set i (.l xs.dropLast))).map .nx
    | none => none
  | _ => none
theorem sPop {i g} : SndS (wPop i g) (ePop i g) := by
  intro ρ o e E q
  unfold ePop at e
  split at e
  · rename_i xs e0
    split at e
    · rename_i d e1
      obtain ⟨y, e2, rfl⟩ := Option.map_eq_some_iff.mp e
      obtain ⟨ys, rfl⟩ := List.getLast?_eq_some_iff.mp e1
      refine ⟨ys, d, e0, y, ?_, q⟩
      simpa using e2
    · cases e
  · cases e
def eAug (i : Nat) (a : Env' → Option PyData) : Env' → Option Out := fun ρ => match ρ[i]? with
  | some (.d (.int k)) => (a ρ).bind fun d => (gtI d).map fun j => .nx (ρ.set i (.d (.int (k + j))))
  | _ => none
theorem sAug {i wa a} (h : Snd wa a) : SndS (wAug i wa) (eAug i a) := by
  intro ρ o e E q
  unfold eAug at e
  split at e
  · rename_i k e0
    obtain ⟨x, e1, e2⟩ := Option.bind_eq_some_iff.mp e
    obtain ⟨j, e2q, rfl⟩ := Option.map_eq_some_iff.mp e2
    exact ⟨k, e0, h ρ _ e1 _ ⟨j, gtI_is e2q, q⟩⟩
  · cases e
def forF (g : PyData → Env' → Option Env') (b : Env' → Option Out) : List PyData → Env' → Option Out
  | [], ρ => some (.nx ρ)
  | d :: ds, ρ => (g d ρ).bind fun ρ' => (b ρ').bind fun o => match o with
    | .nx ρ2 => forF g b ds ρ2
    | .ct ρ2 => forF g b ds ρ2
    | .bk ρ2 => some (.nx ρ2)
    | .rt d => some (.rt d)
def eFor (i : Env' → Option (List PyData)) (g : PyData → Env' → Option Env') (b : Env' → Option Out) : Env' → Option Out := fun ρ => (i ρ).bind fun items => forF g b items ρ
theorem forF_run {g wb b} (hb : SndS wb b) {E : En} : ∀ (ds : List PyData) (ρ : Env') (o : Out), forF g b ds ρ = some o → o.of E → forD g wb E ds ρ
  | [], ρ, o, h, q => by cases h; exact q
  | d :: ds, ρ, o, h, q => by
    obtain ⟨ρ', e1, h⟩ := Option.bind_eq_some_iff.mp h
    obtain ⟨u, e2, h⟩ := Option.bind_eq_some_iff.mp h
    refine ⟨ρ', e1, hb _ _ e2 _ ?_⟩
    cases u with
    | nx ρ2 => exact forF_run hb ds ρ2 o h q
    | ct ρ2 => exact forF_run hb ds ρ2 o h q
    | bk ρ2 => cases h; exact q
    | rt d => cases h; exact q
theorem sFor {wi i g wb b} (hi : Snd wi i) (hb : SndS wb b) : SndS (wFor wi g wb) (eFor i g b) := by
  intro ρ o e E q
  obtain ⟨x, e1, e2⟩ := Option.bind_eq_some_iff.mp e
  exact hi ρ _ e1 _ (forF_run hb _ _ _ e2 q)
def whileF (t : Env' → Option Bool) (b : Env' → Option Out) : Nat → Env' → Option Out
  | 0, _ => none
  | n + 1, ρ => (t ρ).bind fun k => if k = true then (b ρ).bind fun o => match o with
    | .nx ρ2 => whileF t b n ρ2
    | .ct ρ2 => whileF t b n ρ2
    | .bk ρ2 => some (.nx ρ2)
    | .rt d => some (.rt d) else some (.nx ρ)
theorem whileF_up {t b} : ∀ {n m ρ o}, whileF t b n ρ = some o → n ≤ m → whileF t b m ρ = some o
  | 0, _, _, _, h, _ => by cases h
  | n + 1, 0, _, _, _, h => absurd h (by omega)
  | n + 1, m + 1, ρ, o, h, l => by
    obtain ⟨k, e1, h⟩ := Option.bind_eq_some_iff.mp h
    show (t ρ).bind _ = _
    rw [e1, Option.bind_some]
    cases k with
    | false => rw [if_neg Bool.false_ne_true] at h ⊢; exact h
    | true =>
      rw [if_pos rfl] at h ⊢
      obtain ⟨u, e2, h⟩ := Option.bind_eq_some_iff.mp h
      rw [e2, Option.bind_some]
      cases u with
      | nx ρ2 => exact whileF_up h (by omega)
      | ct ρ2 => exact whileF_up h (by omega)
      | bk ρ2 => exact h
      | rt d => exact h
/-- turns enough -/
def turns : Nat := 4294967296
def eWhile (t : Env' → Option Bool) (b : Env' → Option Out) : Env' → Option Out := whileF t b turns
theorem eWhile_is {t b n ρ o} (h : whileF t b n ρ = some o) (l : n ≤ 4294967296) : eWhile t b ρ = some o := whileF_up h l
theorem sWhile {wt t wb b} (ht : Snd wt t) (hb : SndS wb b) : SndS (wWhile wt wb) (eWhile t b) := by
  intro ρ o e E q
  refine ⟨fun m ρ => whileF t b m ρ = some o, ⟨_, e⟩, fun m ρ h => ?_⟩
  cases m with
  | zero => cases h
  | succ m =>
    obtain ⟨k, e1, h⟩ := Option.bind_eq_some_iff.mp h
    refine ht _ _ e1 _ ?_
    cases k with
    | false => rw [if_neg Bool.false_ne_true] at h ⊢; cases h; exact q
    | true =>
      rw [if_pos rfl] at h ⊢
      obtain ⟨u, e2, h⟩ := Option.bind_eq_some_iff.mp h
      refine hb _ _ e2 _ ?_
      cases u with
      | nx ρ2 => exact ⟨m, Nat.lt_succ_self m, h⟩
      | ct ρ2 => exact ⟨m, Nat.lt_succ_self m, h⟩
      | bk ρ2 => cases h; exact q
      | rt d => cases h; exact q
/-! a def -/
def outD : Out → Option PyData
  | .rt d => some d
  | .nx _ => some .none
  | _ => none
def runF (n : Nat) (N : List Str) (e : Env' → Option Out) : Fn := fun ds => if ds.length = n then (e (slots0 N (ds.map Sl.d))).bind outD else none
theorem runF_ok {n : Nat} {N : List Str} {w : WS} {e : Env' → Option Out} (h : SndS w e) : ∀ ss Q E, ss.length = n → wf (runF n N e) ss Q E → w (slots0 N ss) (enD Q) := by
  rintro ss Q E - ⟨ds, r, rfl, h1, q⟩
  unfold runF at h1
  split at h1
  · obtain ⟨o, e1, e2⟩ := Option.bind_eq_some_iff.mp h1
    refine h _ _ e1 _ ?_
    cases o with
    | rt d => cases e2; exact q
    | nx ρ => cases e2; exact q
    | bk ρ => cases e2
    | ct ρ => cases e2
  · cases h1
end DL
/-! texts that may raise, as functions: Dlx -/
namespace DL
open PySem PySem.Spec L2
abbrev XFn := List PyData → Option (PyData ⊕ (Addr × PyData))
def resOf (Q : PyData → Prop) (E : Addr → PyData → Prop) : PyData ⊕ (Addr × PyData) → Prop
  | .inl d => Q d
  | .inr p => E p.1 p.2
/-- a def of data alone that may raise -/
def rf (f : XFn) : WF := fun ss Q E => ∃ ds o, ss = ds.map Sl.d ∧ f ds = some o ∧ resOf Q E o
theorem m_rf {f} : MonoF (rf f) := fun ss Q Q' E E' k l ⟨ds, o, e, h, q⟩ => ⟨ds, o, e, h, by
  cases o with
  | inl d => exact k d q
  | inr p => exact l _ _ q⟩
def SndX (Ex : Addr → PyData → Prop) (w : WS) (x : Env' → Option (Out ⊕ (Addr × PyData))) : Prop := ∀ ρ o, x ρ = some o → ∀ E : En, (match o with | .inl o => o.of E | .inr p => Ex p.1 p.2) → w ρ E
def xLift (e : Env' → Option Out) : Env' → Option (Out ⊕ (Addr × PyData)) := fun ρ => (e ρ).map .inl
theorem sxLift {Ex w e} (h : SndS w e) : SndX Ex w (xLift e) := by
  intro ρ o h1 E q
  obtain ⟨x, e1, rfl⟩ := Option.map_eq_some_iff.mp h1
  exact h ρ _ e1 E q
def xSeq (a b : Env' → Option (Out ⊕ (Addr × PyData))) : Env' → Option (Out ⊕ (Addr × PyData)) := fun ρ => (a ρ).bind fun o => match o with
  | .inl (.nx ρ') => b ρ'
  | o => some o
theorem sxSeq {Ex wa a wb b} (h : SndX Ex wa a) (h' : SndX Ex wb b) : SndX Ex (wSeq wa wb) (xSeq a b) := by
  intro ρ o e E q
  obtain ⟨x, e1, e2⟩ := Option.bind_eq_some_iff.mp e
  refine h ρ _ e1 _ ?_
  match x, e2 with
  | .inl (.nx ρ'), e2 => exact h' ρ' _ e2 E q
  | .inl (.rt d), e2 => cases e2; exact q
  | .inl (.bk d), e2 => cases e2; exact q
  | .inl (.ct d), e2 => cases e2; exact q
  | .inr p, e2 => cases e2; exact q
def xIfS (t : Env' → Option Bool) (a b : Env' → Option (Out ⊕ (Addr × PyData))) : Env' → Option (Out ⊕ (Addr × PyData)) := fun ρ => (t ρ).bind fun c => if c = true then a ρ else b ρ
theorem sxIfS {Ex wt t wa a wb b} (ht : Snd wt t) (h : SndX Ex wa a) (h' : SndX Ex wb b) : SndX Ex (wIfS wt wa wb) (xIfS t a b) := by
  intro ρ o e E q
  obtain ⟨x, e1, e2⟩ := Option.bind_eq_some_iff.mp e
  refine ht ρ _ e1 _ ?_
  cases x with
  | true => rw [if_pos rfl] at e2 ⊢; exact h ρ _ e2 _ q
  | false => rw [if_neg Bool.false_ne_true] at e2 ⊢; exact h' ρ _ e2 _ q
def xRaise (C : Addr) (a : Env' → Option PyData) : Env' → Option (Out ⊕ (Addr × PyData)) := fun ρ => (a ρ).map fun d => .inr (C, d)
theorem sxRaise {Ex C wa a} (h : Snd wa a) : SndX Ex (wRaise C wa Ex) (xRaise C a) := by
  intro ρ o e E q
  obtain ⟨x, e1, rfl⟩ := Option.map_eq_some_iff.mp e
  exact h ρ _ e1 _ q
def xDrop (f : XFn) (b : Env' → Option (List PyData)) : Env' → Option (Out ⊕ (Addr × PyData)) := fun ρ => (b ρ).bind fun xs => (f xs).map fun o => match o with
  | .inl _ => .inl (.nx ρ)
  | .inr p => .inr p
theorem sxDrop {Ex f wb b} (h : SndP wb b) : SndX Ex (wDrop (wCall (rf f) wb Ex)) (xDrop f b) := by
  intro ρ o e E q
  obtain ⟨x, e1, e2⟩ := Option.bind_eq_some_iff.mp e
  obtain ⟨y, e3, rfl⟩ := Option.map_eq_some_iff.mp e2
  refine h ρ _ e1 _ ⟨x, y, rfl, e3, ?_⟩
  cases y with
  | inl d => exact q
  | inr p => exact q
def outX : Out ⊕ (Addr × PyData) → Option (PyData ⊕ (Addr × PyData))
  | .inl (.rt d) => some (.inl d)
  | .inl (.nx _) => some (.inl .none)
  | .inl _ => none
  | .inr p => some (.inr p)
def runX (n : Nat) (N : List Str) (x : Env' → Option (Out ⊕ (Addr × PyData))) : XFn := fun ds => if ds.length = n then (x (slots0 N (ds.map Sl.d))).bind outX else none
theorem runX_ok {n : Nat} {N : List Str} {w : (Addr → PyData → Prop) → WS} {x : Env' → Option (Out ⊕ (Addr × PyData))} (h : ∀ Ex, SndX Ex (w Ex) x) : ∀ ss Q E, ss.length = n → rf (runX n N x) ss Q E → w E (slots0 N ss) (enD Q) := by
  rintro ss Q E - ⟨ds, r, rfl, h1, q⟩
  unfold runX at h1
  split at h1
  · obtain ⟨o, e1, e2⟩ := Option.bind_eq_some_iff.mp h1
    refine h E _ _ e1 _ ?_
    match o, e2 with
    | .inl (.rt d), e2 => cases e2; exact q
    | .inl (.nx ρ), e2 => cases e2; exact q
    | .inr p, e2 => cases e2; exact q
  · cases h1
end DL
set_option maxRecDepth 100000
/-! loops and comprehensions of texts that draw: Dg -/
namespace DL
open PySem PySem.Spec L2
theorem wPar2 {i j : Nat} {wa wb : WV} {ρ : Env'} {E : En} : wPar i j (vCons wa (vCons wb vNil)) ρ E = wa ρ fun s => wb ρ fun t => E.nx ((ρ.set i s).set j t) := by
  have k : ∀ s t : Sl, (∃ s' t', [s, t] = [s', t'] ∧ E.nx ((ρ.set i s').set j t')) = E.nx ((ρ.set i s).set j t) := fun s t => propext ⟨fun ⟨a, b, e, q⟩ => by cases e; exact q, fun q => ⟨_, _, rfl, q⟩⟩
  show (wa ρ fun s => wb ρ fun t => ∃ s' t', [s, t] = [s', t'] ∧ E.nx ((ρ.set i s').set j t')) = _
  simp only [k]
theorem forD_inv {g : PyData → Env' → Option Env'} {wb : WS} {E : En} {all : List PyData} (P : List PyData → Env' → Prop)
    (hs : ∀ pre d post ρ, all = pre ++ d :: post → P pre ρ → ∃ ρ', g d ρ = some ρ' ∧ ∀ E' : En, E'.rt = E.rt → (∀ ρ2, P (pre ++ [d]) ρ2 → E'.nx ρ2) → (∀ ρ2, P (pre ++ [d]) ρ2 → E'.ct ρ2) → (∀ ρ2, E.nx ρ2 → E'.bk ρ2) → wb ρ' E')
    (he : ∀ ρ, P all ρ → E.nx ρ) : ∀ (ds pre : List PyData) (ρ : Env'), all = pre ++ ds → P pre ρ → forD g wb E ds ρ
  | [], pre, ρ, e, p => he ρ (by rw [e, List.append_nil]; exact p)
  | d :: ds, pre, ρ, e, p => by
    obtain ⟨ρ', h1, h2⟩ := hs pre d ds ρ e p
    have e2 : all = (pre ++ [d]) ++ ds := by rw [e]; simp
    exact ⟨ρ', h1, h2 _ rfl (fun ρ2 q => forD_inv P hs he ds _ ρ2 e2 q) (fun ρ2 q => forD_inv P hs he ds _ ρ2 e2 q) fun ρ2 q => q⟩
theorem forD_all {g : PyData → Env' → Option Env'} {wb : WS} {E : En} {all : List PyData} {ρ : Env'} (P : List PyData → Env' → Prop) (h0 : P [] ρ)
    (hs : ∀ pre d post ρ, all = pre ++ d :: post → P pre ρ → ∃ ρ', g d ρ = some ρ' ∧ ∀ E' : En, E'.rt = E.rt → (∀ ρ2, P (pre ++ [d]) ρ2 → E'.nx ρ2) → (∀ ρ2, P (pre ++ [d]) ρ2 → E'.ct ρ2) → (∀ ρ2, E.nx ρ2 → E'.bk ρ2) → wb ρ' E')
    (he : ∀ ρ, P all ρ → E.nx ρ) : forD g wb E all ρ := forD_inv P hs he all [] ρ rfl h0
theorem rangeD_at {lo : Int} {n : Nat} {pre post : List PyData} {d : PyData} (h : rangeD lo n = pre ++ d :: post) : d = .int (lo + pre.length) ∧ pre.length < n := by
  have hl : (rangeD lo n).length = n := by simp [rangeD]
  have h1 : (rangeD lo n)[pre.length]? = some d := by rw [h]; simp
  have h2 : pre.length < n := by
    have := congrArg List.length h
    rw [hl] at this
    simp at this
    omega
  unfold rangeD at h1
  rw [List.getElem?_map, List.getElem?_range h2] at h1
  exact ⟨(Option.some.inj h1).symm, h2⟩
theorem forD_rng {g : PyData → Env' → Option Env'} {wb : WS} {E : En} {lo : Int} {n : Nat} {ρ : Env'} (P : Nat → Env' → Prop) (h0 : P 0 ρ)
    (hs : ∀ k ρ, k < n → P k ρ → ∃ ρ', g (.int (lo + k)) ρ = some ρ' ∧ ∀ E' : En, E'.rt = E.rt → (∀ ρ2, P (k + 1) ρ2 → E'.nx ρ2) → (∀ ρ2, P (k + 1) ρ2 → E'.ct ρ2) → (∀ ρ2, E.nx ρ2 → E'.bk ρ2) → wb ρ' E')
    (he : ∀ ρ, P n ρ → E.nx ρ) : forD g wb E (rangeD lo n) ρ := by
  refine forD_all (fun pre => P pre.length) h0 (fun pre d post ρ e p => ?_) fun ρ p => he ρ (by simpa [rangeD] using p)
  obtain ⟨e1, e2⟩ := rangeD_at e
  obtain ⟨ρ', h1, h2⟩ := hs pre.length ρ e2 p
  refine ⟨ρ', by rw [e1]; exact h1, fun E' a b c d => h2 E' a (fun ρ2 q => b ρ2 (by simpa using q)) (fun ρ2 q => c ρ2 (by simpa using q)) d⟩
theorem yes_true {ρ : Env'} (R : Bool → Prop) (r : R true) : wYes ρ R := r
theorem lcD_any {α : Type} {F : α → PyData} {vs : List Nat} {g : PyData → Env' → Option Env'} {we : WE} {ρ : Env'} {Q : List PyData → Prop} :
    ∀ (ds acc : List PyData), (∀ d ∈ ds, ∃ ρ', g d (unAll vs ρ) = some ρ' ∧ ∀ Q' : PyData → Prop, (∀ a, Q' (F a)) → we ρ' Q') → acc.length + ds.length ≤ 65536 → (∀ l : List α, l.length = ds.length → Q (acc ++ l.map F)) → lcD vs g wYes we ρ Q ds acc
  | [], acc, _, _, h => by have := h [] rfl; simp only [List.map_nil, List.append_nil] at this; exact this
  | d :: ds, acc, hs, hz, h => by
    obtain ⟨ρ', h1, h2⟩ := hs d List.mem_cons_self
    simp only [List.length_cons] at hz h
    refine ⟨ρ', h1, yes_true _ ((if_pos rfl).mpr ?_)⟩
    refine h2 _ fun a => ⟨Nat.lt_of_lt_of_le (show acc.length < 65536 by omega) (by decide), lcD_any ds (acc ++ [F a]) (fun d hd => hs d (List.mem_cons_of_mem _ hd)) (by simp; omega) fun l hl => ?_⟩
    have := h (a :: l) (by simp [hl])
    simpa using this
end DL
set_option maxRecDepth 100000
/-! the size of data, and what is printed of it: Dm -/
namespace DL
open PySem PySem.Spec L2
mutual
def wt : PyData → Nat
  | .none => 5
  | .bool _ => 5
  | .int i => i.natAbs.log2 + 3
  | .str x => 10 * x.length + 2
  | .list xs => 3 + wts xs
  | .tuple xs => 3 + wts xs
  | .dict _ => 0
def wts : List PyData → Nat
  | [] => 0
  | x :: xs => wt x + 2 + wts xs
end
def ascii (x : Str) : Bool := x.cps.all (· < 128)
theorem ascii_ok {x : Str} (h : ascii x = true) : PyData.strOk x = true := by
  unfold ascii at h
  unfold PyData.strOk
  rw [← Array.all_toList, List.all_eq_true] at h ⊢
  exact fun c hc => decide_eq_true (Nat.lt_trans (of_decide_eq_true (h c hc)) (by decide))
mutual
/-- texts that may stand, numbers below B, no dict -/
def fit (B : Nat) : PyData → Bool
  | .none => true
  | .bool _ => true
  | .int i => decide (i.natAbs < B)
  | .str x => ascii x
  | .list xs => fits B xs
  | .tuple xs => fits B xs
  | .dict _ => false
def fits (B : Nat) : List PyData → Bool
  | [] => true
  | x :: xs => fit B x && fits B xs
end
theorem wts_app : ∀ xs ys : List PyData, wts (xs ++ ys) = wts xs + wts ys
  | [], ys => by simp [wts]
  | x :: xs, ys => by simp [wts, wts_app xs ys]; omega
theorem fits_app (B : Nat) : ∀ xs ys : List PyData, fits B (xs ++ ys) = (fits B xs && fits B ys)
  | [], ys => by simp [fits]
  | x :: xs, ys => by simp [fits, fits_app B xs ys, Bool.and_assoc]
theorem depthAll_app : ∀ xs ys : List PyData, PyData.depthAll (xs ++ ys) = max (PyData.depthAll xs) (PyData.depthAll ys)
  | [], ys => by simp [PyData.depthAll]
  | x :: xs, ys => by simp [PyData.depthAll, depthAll_app xs ys, Nat.max_assoc]
theorem wts_len : ∀ xs : List PyData, 2 * xs.length ≤ wts xs
  | [] => by simp [wts]
  | x :: xs => by have := wts_len xs; simp [wts]; omega
theorem wts_mem : ∀ {xs : List PyData} {x : PyData}, x ∈ xs → wt x + 2 ≤ wts xs
  | y :: ys, x, h => by
    rcases List.mem_cons.mp h with e | h
    · rw [e]; simp [wts]
    · have := wts_mem h; simp [wts]; omega
theorem fits_mem {B : Nat} : ∀ {xs : List PyData} {x : PyData}, fits B xs = true → x ∈ xs → fit B x = true
  | y :: ys, x, f, h => by
    simp only [fits, Bool.and_eq_true] at f
    rcases List.mem_cons.mp h with e | h
    · rw [e]; exact f.1
    · exact fits_mem f.2 h
theorem depth_mem : ∀ {xs : List PyData} {x : PyData}, x ∈ xs → x.depth ≤ PyData.depthAll xs
  | y :: ys, x, h => by
    rcases List.mem_cons.mp h with e | h
    · rw [e]; simp [PyData.depthAll]; omega
    · have := depth_mem h; simp [PyData.depthAll]; omega
theorem nat_repr_len (n : Nat) : n.repr.length ≤ n.log2 + 1 := by
  rw [Nat.length_repr_le_iff (by omega)]
  have h1 : n < 2 ^ (n.log2 + 1) := Nat.lt_log2_self
  exact Nat.lt_of_lt_of_le h1 (Nat.pow_le_pow_left (by decide) _)
theorem ofS_len (s : String) : (Str.ofString s).length = s.length := by
  rw [Str.ofString_eq_toList]
  simp [Str.length, String.length_toList]
theorem int_text (i : Int) : (Str.ofString (toString i)).length ≤ i.natAbs.log2 + 2 := by
  rw [ofS_len, Int.toString_eq_repr, Int.repr_eq_if]
  split
  · have := nat_repr_len i.toNat
    have e : i.toNat = i.natAbs := by omega
    rw [e] at this ⊢; omega
  · have := nat_repr_len (-i).toNat
    have e : (-i).toNat = i.natAbs := by omega
    rw [String.length_append, e]
    rw [e] at this
    have e2 : ("-" : String).length = 1 := rfl
    omega
theorem textFrom_le : ∀ (ts : List Str) (k : Nat) (acc : Str), (textFrom k acc ts).length ≤ acc.length + piled ts
  | [], k, acc => by show acc.length ≤ _; omega
  | t :: r, k, acc => by
    have ih := textFrom_le r (k + 1) (acc ++ (if k > 0 then ", " else "" : String) ++ t)
    show (textFrom (k + 1) (acc ++ (if k > 0 then ", " else "" : String) ++ t) r).length ≤ _
    rw [strLen_append, strLen_append] at ih
    rw [piled_cons]
    have e : ((if k > 0 then ", " else "" : String) : Str).length ≤ 2 := by split <;> decide
    omega
theorem listText_le (ts : List Str) : (listText ts).length ≤ 2 + piled ts := by
  unfold listText
  have := textFrom_le ts 0 "["
  rw [strLen_append]
  have e1 : (("[" : String) : Str).length = 1 := rfl
  have e2 : (("]" : String) : Str).length = 1 := rfl
  omega
theorem tupleText_le (ts : List Str) : (tupleText ts).length ≤ 3 + piled ts := by
  unfold tupleText
  rw [strLen_append, strLen_append]
  have e1 : ((("(" : String) : Str)).length = 1 := rfl
  have e3 : (((if ts.length == 1 then ",)" else ")" : String) : Str)).length ≤ 2 := by split <;> decide
  by_cases h : ts = []
  · subst h
    have e0 : (Str.join ", " []).length = 0 := rfl
    rw [e0, e1]; omega
  · have := join_length_add ts h
    rw [e1]; omega
mutual
theorem shown_le {B : Nat} : ∀ d : PyData, fit B d = true → d.shown.length ≤ wt d
  | .none, _ => by show (("None" : String) : Str).length ≤ 5; decide
  | .bool true, _ => by show (("True" : String) : Str).length ≤ 5; decide
  | .bool false, _ => by show (("False" : String) : Str).length ≤ 5; decide
  | .int i, _ => by have := int_text i; show (Str.ofString (toString i)).length ≤ i.natAbs.log2 + 3; omega
  | .str x, h => by
    have h2 : x.cps.all (· < 0x110000) = true := ascii_ok h
    refine StrLaws.reprText_len x fun c hc => ?_
    rw [← Array.all_toList] at h2
    have := of_decide_eq_true (List.all_eq_true.mp h2 c hc)
    exact Nat.lt_trans this (by decide)
  | .list xs, h => by
    have h1 := shownAll_le xs h
    have := listText_le (PyData.shownAll xs)
    show (listText (PyData.shownAll xs)).length ≤ 3 + wts xs
    omega
  | .tuple xs, h => by
    have h1 := shownAll_le xs h
    have := tupleText_le (PyData.shownAll xs)
    show (tupleText (PyData.shownAll xs)).length ≤ 3 + wts xs
    omega
  | .dict _, h => by simp [fit] at h
theorem shownAll_le {B : Nat} : ∀ ds : List PyData, fits B ds = true → piled (PyData.shownAll ds) ≤ wts ds
  | [], _ => by simp [PyData.shownAll, piled, wts]
  | d :: ds, h => by
    simp only [fits, Bool.and_eq_true] at h
    have h1 := shown_le d h.1
    have h2 := shownAll_le ds h.2
    simp only [PyData.shownAll, piled_cons, wts]
    omega
end
mutual
theorem showable_of {B : Nat} (hB : B ≤ 2 ^ 1900) : ∀ d : PyData, fit B d = true → d.showable = true
  | .none, _ => rfl
  | .bool _, _ => rfl
  | .int i, h => by
    simp only [fit, decide_eq_true_eq] at h
    simp only [PyData.showable, decide_eq_true_eq]
    by_cases z : i.natAbs = 0
    · rw [z]; decide
    · exact Nat.lt_trans ((Nat.log2_lt z).mpr (Nat.lt_of_lt_of_le h hB)) (by decide)
  | .str x, _ => rfl
  | .list xs, f => showableAll_of hB xs f
  | .tuple xs, f => showableAll_of hB xs f
  | .dict _, f => by simp [fit] at f
theorem showableAll_of {B : Nat} (hB : B ≤ 2 ^ 1900) : ∀ ds : List PyData, fits B ds = true → PyData.showableAll ds = true
  | [], _ => rfl
  | d :: ds, f => by
    simp only [fits, Bool.and_eq_true] at f
    simp [PyData.showableAll, showable_of hB d f.1, showableAll_of hB ds f.2]
end
mutual
theorem lay_of {B : Nat} : ∀ d : PyData, fit B d = true → d.canLay0 = true
  | .none, _ => rfl
  | .bool _, _ => rfl
  | .int _, _ => rfl
  | .str x, h => by simp only [fit] at h; simpa [PyData.canLay0] using ascii_ok h
  | .list xs, f => by simpa [PyData.canLay0] using lays_of xs f
  | .tuple xs, f => by simpa [PyData.canLay0] using lays_of xs f
  | .dict _, f => by simp [fit] at f
theorem lays_of {B : Nat} : ∀ ds : List PyData, fits B ds = true → PyData.canLayAll0 ds = true
  | [], _ => rfl
  | d :: ds, f => by
    simp only [fits, Bool.and_eq_true] at f
    simp [PyData.canLayAll0, lay_of d f.1, lays_of ds f.2]
end
theorem repr_of {B : Nat} {d : PyData} (hB : B ≤ 2 ^ 1900) (f : fit B d = true) (h : wt d ≤ 16777216) (hd : d.depth ≤ 64) : reprD [d] = some (.str d.shown) := by
  have h1 := shown_le d f
  have h2 : d.shown.length ≤ sizeLine := Nat.le_trans (Nat.le_trans h1 h) (by decide)
  simp [reprD, shownOk, showable_of hB d f, h2, hd]
end DL
set_option maxRecDepth 100000
set_option maxHeartbeats 2000000
/-! a try with several clauses, each with a name: Dt -/
namespace DL
open PySem PySem.Spec PyProof.Rows L2
/-- one clause: its class, the slot of its name, its suite's reading -/
structure Clause where
  c : Value
  i : Nat
  ts : Addr → Value → Option Addr → TS
/-- the ends of a suite: its name's slot is emptied -/
def Clause.ends (k : Clause) (D : Ends) : Ends := { nx := fun σ' H' => D.nx (σ'.set k.i none) H', rt := D.rt, bk := fun σ' H' => D.bk (σ'.set k.i none) H', ct := fun σ' H' => D.ct (σ'.set k.i none) H' }
def wCls (K : PySem.W.Frag) (Wout : WX) (D : Ends) : List Clause → WX
  | [] => Wout
  | k :: r => fun cls d σ H => ∃ b, PySem.W.exmOne K cls k.c = some b ∧ (b = true → ∀ a, H a = none → k.ts a cls d (k.ends D) (σ.set k.i (some (.ref a))) H) ∧ (b = false → wCls K Wout D r cls d σ H)
inductive ClsOk (X : Cx) : List ExceptHandler → List Clause → Prop
  | nil : ClsOk X [] []
  | cons {x n : Str} {k : Clause} {b₀ : Stmt} {suite : List Stmt} {np pos' : Pos} {hds : List ExceptHandler} {l : List Clause} (hc : Names X x k.c) (hi : X.N[k.i]? = some n) (hl : X.env.kindOf n = some .local)
      (su : ∀ (a : Addr) (oe : Obj) (cls : Value) (d : Option Addr) (pn : List (Addr × Obj)), Zc cls d oe → (∃ vs, oe.data = .fields vs) → PSs (X.suite a ((a, oe) :: pn)) (b₀ :: suite) (k.ts a cls d))
      (r : ClsOk X hds l) : ClsOk X (.ExceptHandler (some (.Name x np)) (some n) (b₀ :: suite) pos' :: hds) (k :: l)
section
variable {X : Cx} {body : List Stmt} {h₀ : ExceptHandler} {hds : List ExceptHandler} {l : List Clause} {pos : Pos} {tb : WX → TS} {Wout : WX}
theorem ps_tryN (hs : X.stack = X.env :: X.outer) (hf : X.env.frame = some X.env.locals) (hN : X.N.Nodup) (tk : Takes X Wout)
    (hb : ∀ (W : WX) (pn : List (Addr × Obj)) (xe : Value → Shared → Prop), Takes (X.tr pn xe) W → PassesOwn (model X.prog X.w) X.A X.env xe → PSs (X.tr pn xe) body (tb W))
    (hh : ClsOk X (h₀ :: hds) l) : PS X (.Try body (h₀ :: hds) [] [] pos) (fun D σ H => tb (wCls X.K Wout D l) D σ H) := by
  constructor
  intro pins s σ H D I want
  have okX := I.ok
  have frA : X.A.frames = some (X.env :: X.outer) := by rw [okX.frames, hs]
  apply wpAny_Try_except
  have catchB := hb (wCls X.K Wout D l) (X.pn ++ pins) (fun e s₁ => wpAny (model X.prog X.w) X.A (noteFrame e X.env) (fun _ s₂ => wpAny (model X.prog X.w) X.A (setFlight e none)
    (fun _ s₃ => wpAny (model X.prog X.w) X.A (handleBy e X.env (h₀ :: hds)) (L2.SP X pins D) X.xe s₃) X.xe s₂) X.xe s₁) (fun u s' thrown => ?caught) PassesOwn.looking
  case caught =>
    obtain ⟨a, B, sI, pins', σ', H', cls, d, rfl, J0, nb, up, sky, na, os, ag, w⟩ := thrown
    have J : Inv X pins σ' H' sI := J0.ofTry okX
    have skyE : Sky B (X.env :: X.outer) a (Zc cls d) X.env.locals s'.heap := by rw [← hs]; exact sky
    show wpAny (model X.prog X.w) X.A (noteFrame (.ref a) X.env) _ _ _
    refine Sky.land Zc.steady frA hf skyE fun hp fl upP => ?_
    have K3 : Inv X pins σ' H' { s' with heap := hp } := J.landed nb fl.1 (up.trans upP) os ag
    obtain ⟨oE, vE, getE, zE, datE⟩ := fl.there
    have away : a ∉ frs (X.env :: X.outer) := fun hm => by
      obtain ⟨_, o', e', hnf⟩ := fl.2.2.1.mem hm
      rw [getE] at e'
      cases e'
      exact hnf _ datE
    have nL : a ≠ X.env.locals := fun z => away (List.mem_filterMap.mpr ⟨X.env, List.mem_cons_self, by rw [hf, z]⟩)
    have nF : a ∉ X.fs := fun hm => by
      obtain ⟨e, he, q⟩ := List.mem_filterMap.mp hm
      exact away (List.mem_filterMap.mpr ⟨e, List.mem_cons_of_mem _ he, q⟩)
    have suite3 := K3.suite getE datE na nL nF
    suffices go : ∀ {hs' : List ExceptHandler} {l' : List Clause}, ClsOk X hs' l' → wCls X.K Wout D l' cls d σ' H' → wpAny (model X.prog X.w) X.A (handleBy (.ref a) X.env hs') (L2.SP X pins D) X.xe { s' with heap := hp } from go hh w
    intro hs' l' hk
    induction hk with
    | nil =>
      intro w
      apply wpAny_handleBy_nil
      obtain ⟨k1, k2, k3, oe, vs, T, oT, ts', he, hz, hd, h1, hr⟩ := id fl
      unfold PySem.passOn
      refine wpAny_bind (wpAny_field he hd h1 ?_)
      rw [if_neg (by simp : ¬ ((Value.ref T == Value.none) = true))]
      have out : wpAny (model X.prog X.w) X.A (setFlight (.ref a) X.env.frame) (fun _ s4 => wpAny (model X.prog X.w) X.A (throw (.ref a) : Sem Flow) (L2.SP X pins D) X.xe s4) X.xe { s' with heap := hp } := by
        rw [hf]
        refine HandSPX.setFlight_upZ fl fun h4 land4 up4 => wpAny_throw (tk _ _ ⟨a, B, sI, pins, σ', H', cls, d, rfl, J, nb, (up.trans upP).trans up4, .inr (.inr ?_), na, os, ag, w⟩)
        rw [hs]; exact land4
      first
        | exact wpAny_bind (wpAny_pure (wpAny_bind out))
        | exact wpAny_bind out
    | @cons x n k b₀ suite np pos' hds2 l2 hc hi hl su r ih =>
      intro w
      obtain ⟨b, isB, yes, no⟩ := w
      refine wpAny_handleBy_cons (codeAny_handlers_test ?_) (by intro q; cases q)
      have typ : PySem.W.Looks (model X.prog X.w) hp (typeOf (.ref a)) cls := fun A Q E s k q => wpAny_typeOf_ref (k _ _ getE) (by rw [zE.1]; exact q)
      have mat := PySem.W.exm_one (M := model X.prog X.w) (K3.kIn) typ isB
      have named : ∀ {Q : Value → Shared → Prop} {E : Value → Shared → Prop}, Q k.c { s' with heap := hp } → wpAny (model X.prog X.w) (X.A.mark (some (.ref a))) (eval (.Name x np) X.env) Q E { s' with heap := hp } := by
        intro Q E q
        rcases hc with ⟨hg, hdbg, hm | ⟨hm, hv, hnn⟩⟩
        · exact ld_glob (X := X.suite a ((a, oE) :: (X.pn ++ pins))) suite3 hg hm q hdbg
        · exact ld_blt (X := X.suite a ((a, oE) :: (X.pn ++ pins))) suite3 hg hm hv q hnn hdbg
      refine named (mat.here ?_)
      cases b with
      | false =>
        show wpAny _ X.A (handleBy (.ref a) X.env hds2) _ _ _
        exact ih (no rfl)
      | true =>
        apply codeAny_handlers_suite_as
        refine HandSPX.lands_againZ fl fun h4 fl4 up4 => ?_
        have J4 : Inv X pins σ' H' { s' with heap := h4 } := J.landed nb fl4.1 ((up.trans upP).trans up4) os ag
        obtain ⟨o4, v4, get4, z4, dat4⟩ := fl4.there
        refine store_ok (X := X.suite a ((a, o4) :: (X.pn ++ pins))) (v := .ref a) (J4.suite get4 dat4 na nL nF) hN hi (.inl hl) rfl (fun s5 S5 => ?_) (.inr hl)
        refine wpAny_mono ((su a o4 cls d (X.pn ++ pins) z4 ⟨_, dat4⟩).run [] s5 _ H' _ S5 (yes rfl a na)) (fun f s6 ended => ?_) (fun _ _ z => False.elim z)
        have gone : ∀ {σ6 : L2.St} {H6 : Hp} {Q : Shared → Prop}, Inv (X.suite a ((a, o4) :: (X.pn ++ pins))) [] σ6 H6 s6 → (∀ s7, Inv X pins (σ6.set k.i none) H6 s7 → Q s7) →
            wpAny (model X.prog X.w) X.A (do bindName X.env n .none; unbindBehindTheSuite X.env n pos') (fun _ s7 => Q s7) X.xe s6 := fun {σ6 H6 Q} S6 hq => gone_ok (S6.unsuite okX) hN hi hl hq
        cases f with
        | next => obtain ⟨σ6, H6, S6, q6⟩ := ended; exact gone S6 fun s7 J7 => ⟨_, _, J7, q6⟩
        | brk => obtain ⟨σ6, H6, S6, q6⟩ := ended; exact gone S6 fun s7 J7 => ⟨_, _, J7, q6⟩
        | cont => obtain ⟨σ6, H6, S6, q6⟩ := ended; exact gone S6 fun s7 J7 => ⟨_, _, J7, q6⟩
        | ret u => obtain ⟨v6, σ6, H6, S6, r6, q6⟩ := ended; exact gone S6 fun s7 J7 => ⟨_, _, _, J7, r6, q6⟩
  refine wpAny_mono (catchB.run [] s σ H D (I.toTry _) want) (fun f s1 ended => ?_) (fun e s1 he => he)
  cases f with
  | next => obtain ⟨σ', H', J', q⟩ := ended; exact wpAny_execs_nil ⟨σ', H', J'.ofTry okX, q⟩
  | brk => obtain ⟨σ', H', J', q⟩ := ended; exact ⟨σ', H', J'.ofTry okX, q⟩
  | cont => obtain ⟨σ', H', J', q⟩ := ended; exact ⟨σ', H', J'.ofTry okX, q⟩
  | ret u => obtain ⟨v, σ', H', J', r, q⟩ := ended; exact ⟨v, σ', H', J'.ofTry okX, r, q⟩
end
end DL
set_option maxRecDepth 100000
set_option maxHeartbeats 2000000
/-! the suites of errors caught, and what a def makes of a lambda that may raise: Dh -/
namespace DL
open PySem PySem.Spec PyProof.Rows L2
/-- a part of a suite's row: a text, the error's field, its print, whether it is an error of the base -/
inductive It where
  | str (x : Str)
  | fld
  | rep
  | isi
def It.val : It → V → PyData → V
  | .str x, _, _ => .str x
  | .fld, v, _ => v
  | .rep, _, r => .str r.shown
  | .isi, _, _ => .bl true
def It.dat : It → PyData → PyData
  | .str x, _ => .str x
  | .fld, r => r
  | .rep, r => .str r.shown
  | .isi, _ => .bool true
def It.need : It → PyData → Prop
  | .rep, r => shownOk r = true
  | _, _ => True
/-- the caught error at the slot i: at a, of the class C, its dict at dd -/
structure Caught (K : PySem.W.Frag) (i : Nat) (a C dd : Addr) (f : Str) (v : V) (r : PyData) (cls : Value) (d : Option Addr) (σ : L2.St) (H : Hp) : Prop where
  at_ : ∃ σ0, σ = List.set σ0 i (some (.ref a))
  ec : cls = .ref C
  ed : d = some dd
  eh : H dd = some (.xd [(f, v)])
  dp : Dp K H v r
  nd : r.hasDict = false
/-- what an own error's class must say -/
structure ErrC (K : PySem.W.Frag) (C : Addr) (f : Str) : Prop where
  x : XfC K C
  no : PySem.W.findIn K (.ref C) f = some none
  e : ExcC K C
section
variable {X : Cx} {a C CP dd : Addr} {oe : Obj} {cls : Value} {d : Option Addr} {pn : List (Addr × Obj)} {i : Nat} {f n x : Str} {v : V} {r : PyData} {pos p p1 p2 p3 : Pos} {j : Nat}
theorem pe_named (hi : X.N[i]? = some n) (hv : Vis X.env.scope n) (hd : (n == ("__debug__" : Str)) = false) (hcd : (n == ("__classdict__" : Str)) = false) : PE X (.Name n pos) (fun σ H Q => (∃ σ0, σ = List.set σ0 i (some (.ref a))) ∧ Q (.ref a) H) := by
  constructor
  intro pins s σ H Q I h
  obtain ⟨⟨σ0, e⟩, q⟩ := h
  have hl := I.len
  have hlt : i < X.N.length := (List.getElem?_eq_some_iff.mp hi).1
  have e2 : σ[i]? = some (some (.ref a)) := by
    rw [e, List.length_set] at hl
    rw [e, List.getElem?_set_self (by omega)]
  exact (pe_var hi hv hd hcd).run pins s σ H Q I ⟨_, e2, q⟩
/-- isinstance of an error with a dict -/
theorem call_isD (T : ExcC X.K C) (hz : Zc cls d oe) (hf : ∃ vs, oe.data = .fields vs) (ki : PySem.W.kitOne X.K (.ref C) (.ref CP) = some true) :
    CallR (X.suite a ((a, oe) :: pn)) (.builtin "isinstance") (fun xs H Q => xs = [.ref a, .ref CP] ∧ cls = .ref C ∧ (∃ dd fs, d = some dd ∧ H dd = some (.xd fs)) ∧ Q (.bl true) H) := by
  intro pins s σ H xs us Q I rel h
  obtain ⟨rfl, ec, ⟨dd, fs, ed, eh⟩, q⟩ := h
  subst ec ed
  cases rel with
  | cons rx rr =>
    cases rr with
    | cons rt rr =>
      cases rr
      cases rx
      cases rt
      obtain ⟨hget, _⟩ := I.pin (a, oe) (List.mem_append.mpr (.inl List.mem_cons_self))
      obtain ⟨vs, hv⟩ := hf
      have hx : ObjOk X.prog X.w H s.heap dd (.xd fs) := I.hok dd _ eh
      obtain ⟨mA, hns, hr⟩ := hx
      obtain ⟨od, ho, hl⟩ := lookIn_ns hns
      have J : PySem.W.InstAt s.heap a oe C (some od) := ⟨hget, hz.1, by unfold PySem.W.notCls; rw [hv] <;> rfl, by rw [hz.2]; exact ho⟩
      obtain ⟨cd, hc, _⟩ := PySem.W.any_some T.hd
      exact PySem.W.kia_one (PySem.W.kitx_exc (by rw [hc]; rfl) T.hg T.hk T.hs T.ha T.hn T.ht T.hm) I.kIn J ki (fun z => nomatch z) fun tk => ⟨.bl true, H, I.kept (t' := tk) fun _ _ z => z, rfl, q⟩
abbrev tItE (K : PySem.W.Frag) (i : Nat) (a C dd : Addr) (f : Str) (v : V) (r : PyData) (cls : Value) (d : Option Addr) (it : It) : TE := fun σ H Q => Caught K i a C dd f v r cls d σ H ∧ it.need r ∧ Q (it.val v r) H
abbrev tItA (K : PySem.W.Frag) (i : Nat) (a C dd : Addr) (f : Str) (v : V) (r : PyData) (cls : Value) (d : Option Addr) (its : List It) : TA := fun σ H Q => Caught K i a C dd f v r cls d σ H ∧ (∀ it ∈ its, it.need r) ∧ Q (its.map (·.val v r)) H
theorem it_str : PE (X.suite a ((a, oe) :: pn)) (.Constant (.str x) j pos) (tItE X.K i a C dd f v r cls d (.str x)) :=
  pe_imp pe_str fun σ H Q ⟨_, _, q⟩ => q
section
variable (T : ErrC X.K C f) (hz : Zc cls d oe) (hf : ∃ vs, oe.data = .fields vs) (hi : X.N[i]? = some n) (hv : Vis X.env.scope n) (hd : (n == ("__debug__" : Str)) = false) (hcd : (n == ("__classdict__" : Str)) = false)
include T hz hf hi hv hd hcd
theorem fld_pe (hb : attributeBase (.Name n p) f X.env (eval (.Name n p) X.env) = eval (.Name n p) X.env) : PE (X.suite a ((a, oe) :: pn)) (.Attribute (.Name n p) f pos) (fun σ H Q => Caught X.K i a C dd f v r cls d σ H ∧ Q v H) := by
  refine pe_imp (pe_xf T.x T.no hz hf (pe_named (X := X.suite a ((a, oe) :: pn)) (a := a) (i := i) hi hv hd hcd) hb) fun σ H Q ⟨c, q⟩ => ?_
  exact ⟨c.at_, rfl, c.ec, dd, _, v, c.ed, c.eh, by simp [List.lookup], q⟩
theorem it_fld (hb : attributeBase (.Name n p) f X.env (eval (.Name n p) X.env) = eval (.Name n p) X.env) : PE (X.suite a ((a, oe) :: pn)) (.Attribute (.Name n p) f pos) (tItE X.K i a C dd f v r cls d .fld) :=
  pe_imp (fld_pe T hz hf hi hv hd hcd hb) fun σ H Q ⟨c, _, q⟩ => ⟨c, q⟩
theorem it_rep (hgd : X.A.guards = some []) (hu : X.A.units + 65 < cLine) (hg : Gl X "repr") (hm : X.mg "repr" = none) (hb : attributeBase (.Name n p) f X.env (eval (.Name n p) X.env) = eval (.Name n p) X.env)
    (he : starEach (.Attribute (.Name n p) f pos :: []) X.env = (false, eval (.Attribute (.Name n p) f pos) X.env) :: starEach [] X.env) (hpl : (backTo p2 (starEach [] X.env)).any (·.1) = false) :
    PE (X.suite a ((a, oe) :: pn)) (.Call (.Name "repr" p1) [.Attribute (.Name n p) f pos] [] p2) (tItE X.K i a C dd f v r cls d .rep) := by
  have c0 : CallR (X.suite a ((a, oe) :: pn)) (.builtin "repr") (rRepr X.K) := call_reprQ (X := X.suite a ((a, oe) :: pn)) hgd hu
  refine pe_imp (pe_callB (X := X.suite a ((a, oe) :: pn)) c0 hg hm (by decide +kernel) (pa_cons (fld_pe (dd := dd) (v := v) (r := r) T hz hf hi hv hd hcd hb) pa_nil he) (by decide) (by decide) he hpl) fun σ H Q ⟨c, nd, q⟩ => ?_
  exact ⟨c, v, r, rfl, c.dp, nd, c.nd, q⟩
theorem it_isi (ki : PySem.W.kitOne X.K (.ref C) (.ref CP) = some true) (hg : Gl X "isinstance") (hm : X.mg "isinstance" = none) (hgx : Gl X x) (hmx : X.mg x = some (.ref CP)) (hdx : (x == ("__debug__" : Str)) = false)
    (he : starEach (.Name n p :: .Name x p3 :: []) X.env = (false, eval (.Name n p) X.env) :: starEach (.Name x p3 :: []) X.env) (he2 : starEach (.Name x p3 :: []) X.env = (false, eval (.Name x p3) X.env) :: starEach [] X.env) (hpl : (backTo p2 (starEach (.Name x p3 :: []) X.env)).any (·.1) = false) :
    PE (X.suite a ((a, oe) :: pn)) (.Call (.Name "isinstance" p1) [.Name n p, .Name x p3] [] p2) (tItE X.K i a C dd f v r cls d .isi) := by
  have c0 := call_isD (X := X) (a := a) (pn := pn) T.e hz hf ki
  refine pe_imp (pe_callB (X := X.suite a ((a, oe) :: pn)) c0 hg hm (by decide +kernel) (pa_cons (pe_named (X := X.suite a ((a, oe) :: pn)) (a := a) (i := i) hi hv hd hcd) (pa_cons (pe_glob (X := X.suite a ((a, oe) :: pn)) (v := .ref CP) hgx hmx rfl hdx) pa_nil he2) he) (by decide) (by decide) he hpl) fun σ H Q ⟨c, nd, q⟩ => ?_
  exact ⟨c.at_, rfl, c.ec, ⟨dd, _, c.ed, c.eh⟩, q⟩
end
theorem its_nil : PA (X.suite a ((a, oe) :: pn)) [] (tItA X.K i a C dd f v r cls d []) := pa_imp pa_nil fun σ H Q ⟨_, _, q⟩ => q
theorem its_cons {e : Expr} {es : List Expr} {it : It} {its : List It} (h : PE (X.suite a ((a, oe) :: pn)) e (tItE X.K i a C dd f v r cls d it)) (hr : PA (X.suite a ((a, oe) :: pn)) es (tItA X.K i a C dd f v r cls d its))
    (hs : starEach (e :: es) X.env = (false, eval e X.env) :: starEach es X.env := by rfl) : PA (X.suite a ((a, oe) :: pn)) (e :: es) (tItA X.K i a C dd f v r cls d (it :: its)) :=
  pa_imp (pa_cons h hr hs) fun σ H Q ⟨c, nd, q⟩ => ⟨c, nd it List.mem_cons_self, c, fun it' h' => nd it' (List.mem_cons_of_mem _ h'), q⟩
end
end DL
set_option maxRecDepth 100000
set_option maxHeartbeats 2000000
/-! x(lambda: ..): the tables behind are known: Dj -/
namespace DL
open PySem PySem.Spec PyProof.Rows L2 LamX
/-- the heap behind a lambda's making: all but tables stays, no table is new -/
structure LamH (T : List (Addr × Str)) (H H1 : Hp) : Prop where
  ext : ExtN H H1
  tabs : Tabs T H1
  old : ∀ b ps, H1 b = some (.tbl ps) → ∃ ps0, H b = some (.tbl ps0)
theorem lam_new {X : Cx} {pins : List (Addr × Obj)} {σ : L2.St} {H : Hp} {s : Shared} {T : List (Addr × Str)} {c P : Addr} {q : Str} {params : Arguments} {body : Expr} {scope : Scope} {pos : Pos} {E Q : Value → Shared → Prop} (eq : X.env.qual ++ "<lambda>" = q)
    (I : L2.Inv X pins σ H s) (B : TabB X.base X.mg c P) (code : X.env.code = .ref c) (inT : (P, q) ∈ T) (only : ∀ p ∈ T, p.1 = P → p.2 = q) (tabs : Tabs T H)
    (noDef : defaultsOf params X.env = ([], [])) (capt : ∀ y ∈ scope.names, y.2 = .free → ∃ c, X.env.cells.lookup y.1 = some c)
    (go : ∀ (f c' : Addr) (pm ctv : Value) (H1 : Hp) (s' : Shared), L2.Inv X pins σ H1 s' → LamH T H H1 →
      s'.heap.get? f = some (PySem.W.kla_obj "<lambda>" q params body scope (cloFrom X.env.cells scope.names []) pm c' ctv) → H1 f = none → f ∉ frs X.stack → H1 c' = some (CodeO c' q) → Q (.ref f) s') :
    wpAny (model X.prog X.w) X.A (eval (.Lambda params body scope pos) X.env) Q E s := by
  subst eq
  obtain ⟨ps, atP, trip, known⟩ := tabs _ inT
  have blt : s.heap.BuiltinsAt X.mg P := B.bm.keeps I.bk
  have getP : s.heap.get? P = some { cls := .none, data := .fields ps } := I.hok P _ atP
  have above : ∀ f, s.heap.objs.size ≤ f → f ∉ frs X.stack := by
    intro f hf z
    rcases List.mem_cons.mp (I.stkSub _ z) with e | e
    · have low := I.lt
      rw [← e] at low
      exact Nat.lt_irrefl _ (Nat.lt_of_lt_of_le low hf)
    · exact I.nofs hf e
  refine PySem.W.kla_eval noDef ?_
  rcases hfound : codeAmong pos ps.toList with _ | cv
  · -- a new code object
    refine PySem.W.kla_makeFunction (mg := X.mg) (c := c) (P := P) (ps := ps) (closure_ok capt) I.ok.glob (I.mod.glob.keeps I.bk) code (B.code.keeps I.bk) getP trip hfound B.gP blt ?_
    intro c' ctv hN tk keep ge lt' rec_ tab_
    obtain ⟨c2, oc, vs, t, rfl, getC, datC, nameC⟩ : ∃ (c2 : Addr) (oc : Obj) (vs : Array Value) (t : Tok), c' = c2 ∧ hN.get? c2 = some oc ∧ oc.data = .fields vs ∧ vs[1]? = some (.str (X.env.qual ++ "<lambda>") t) := by
      obtain ⟨c2, oc, vs, t, e2, h1, h2, h3⟩ := rec_
      cases e2
      exact ⟨_, oc, vs, t, rfl, h1, h2, h3⟩
    have grown : s.heap.objs.size ≤ hN.objs.size := Nat.le_trans ge (Nat.le_of_lt lt')
    have freshC : H c' = none := I.hok.fresh ge
    have PneC : P ≠ c' := ne_of_none atP freshC
    have J := inv_table (t' := tk) (more := #[rawInt pos.line, rawInt pos.col, .ref c']) (h' := hN.push (PySem.W.kla_obj "<lambda>" (X.env.qual ++ "<lambda>") params body scope (cloFrom X.env.cells scope.names []) ((X.mg "__name__").getD .none) c' ctv)) I atP
      (fun b o hb e => Heap.get?_push_of_some _ (keep b o hb e)) (Heap.get?_push_of_some _ tab_) ge ⟨oc, vs, t, Heap.get?_push_of_some _ getC, datC, nameC⟩
    have ext : ExtN H (upd (upd H P (.tbl (ps ++ #[rawInt pos.line, rawInt pos.col, .ref c']))) c' (CodeO c' (X.env.qual ++ "<lambda>"))) := by
      intro b o e n
      rw [upd_ne (ne_of_none e freshC), upd_ne]
      · exact e
      · rintro rfl
        rw [atP] at e
        exact n ps (Option.some.inj e).symm
    have snoc : (ps ++ #[rawInt pos.line, rawInt pos.col, .ref c']).toList = ps.toList ++ [rawInt pos.line, rawInt pos.col, .ref c'] := by simp
    have nP : hN.objs.size ≠ P := Nat.ne_of_gt (Nat.lt_of_lt_of_le (Heap.lt_size getP) grown)
    have nC : hN.objs.size ≠ c' := Nat.ne_of_gt lt'
    refine go hN.objs.size c' ((X.mg "__name__").getD .none) ctv _ _ J ⟨ext, ?_, ?_⟩ (Heap.get?_push_size _ rfl) (by rw [upd_ne nC, upd_ne nP]; exact I.hok.fresh grown) (above _ grown) upd_same
    · intro p hp
      by_cases hb : p.1 = P
      · have e2 := only p hp hb
        obtain ⟨p1, p2⟩ := p
        cases hb
        cases e2
        refine ⟨_, by rw [upd_ne PneC, upd_same], by rw [snoc]; exact PySem.TriplesOk_snoc _ _ _ _ trip, fun p' cv hcv => ?_⟩
        rw [snoc] at hcv
        rcases among_app _ trip hcv with z | z
        · obtain ⟨c0, e1, e2⟩ := known p' cv z
          exact ⟨c0, e1, ext _ _ e2 codeO_ne⟩
        · exact ⟨c', z, upd_same⟩
      · obtain ⟨ps', a1, a2, a3⟩ := tabs p hp
        refine ⟨ps', by rw [upd_ne (ne_of_none a1 freshC), upd_ne hb]; exact a1, a2, fun p' cv hcv => ?_⟩
        obtain ⟨c0, e1, e2⟩ := a3 p' cv hcv
        exact ⟨c0, e1, ext _ _ e2 codeO_ne⟩
    · intro b ps2 e
      by_cases h1 : b = c'
      · subst h1
        rw [upd_same] at e
        exact absurd (Option.some.inj e) (codeO_ne ps2)
      · by_cases h2 : b = P
        · exact ⟨ps, by rw [h2]; exact atP⟩
        · rw [upd_ne h1, upd_ne h2] at e
          exact ⟨ps2, e⟩
  · obtain ⟨c', rfl, isC⟩ := known pos cv hfound
    refine PySem.W.kla_makeFunctionHit (mg := X.mg) (c := c) (P := P) (ps := ps) (closure_ok capt) I.ok.glob (I.mod.glob.keeps I.bk) code (B.code.keeps I.bk) getP trip hfound blt ?_
    intro ctv hN tk keep grown
    refine go hN.objs.size c' ((X.mg "__name__").getD .none) ctv H { s with heap := hN.push (PySem.W.kla_obj "<lambda>" (X.env.qual ++ "<lambda>") params body scope (cloFrom X.env.cells scope.names []) ((X.mg "__name__").getD .none) c' ctv), toks := tk } ?_ ⟨ExtN.refl H, tabs, fun b ps e => ⟨ps, e⟩⟩ (Heap.get?_push_size _ rfl) (I.hok.fresh grown) (above _ grown) isC
    exact I.kept fun b o e => Heap.get?_push_of_some _ (keep b o e)
def tLamN (T : List (Addr × Str)) (TT : (XK → Hp → VK → Prop) → Hp → VK → Prop) (t : XK → TE) : TE := fun σ H Q => Tabs T H ∧ ∀ H1, LamH T H H1 → TT (fun E H' Q' => t E σ H' Q') H1 Q
/-- what is known of the def that gets the lambda, and of the maker's table -/
structure LamTo (X : Cx) (T : List (Addr × Str)) (x a : Str) (k : Nat) (TT : (XK → Hp → VK → Prop) → Hp → VK → Prop) : Prop where
  hg : Gl X x
  hdb : (x == ("__debug__" : Str)) = false
  hd : (a == ("__debug__" : Str)) = false
  hcd : (a == ("__classdict__" : Str)) = false
  callee : ∃ (g : Addr) (pg : Arguments) (bg : List Stmt) (sg : Scope) (dV kV doc pm cdv ct oc : Value) (an od : Option Addr) (osl : Array (Option Value)) (Ng : List Str),
    X.mg x = some (.ref g) ∧ PySem.W.keepIn X.K (.ref g) = true ∧ X.K.lookup g = some ⟨oc, od, .func (PySem.W.fnOf x x pg bg sg dV kV doc pm an cdv ct), osl⟩ ∧ PySem.W.codeIn X.K cdv x = true ∧
    L2.Binds X.K (PySem.W.fnOf x x pg bg sg dV kV doc pm an cdv ct) [a] [] ∧ FnScope Ng [a] sg ∧ Ng[0]? = some a ∧ Vis sg a ∧ GivesTo X Ng x sg g cdv bg a (X.env.qual ++ "<lambda>") TT
  tab : ∃ c P, TabB X.base X.mg c P ∧ X.env.code = .ref c ∧ (P, X.env.qual ++ "<lambda>") ∈ T ∧ ∀ p ∈ T, p.1 = P → p.2 = X.env.qual ++ "<lambda>"
  hr : Room (k + 2) X.A
theorem pe_lamN {X : Cx} {T : List (Addr × Str)} {TT : (XK → Hp → VK → Prop) → Hp → VK → Prop} {x a : Str} {k : Nat} {params : Arguments} {body : Expr} {scope : Scope} {t : XK → TE} {p lpos pos : Pos}
    (M : LamTo X T x a k TT) (L : LamS X.env.scope scope) (hdef : defaultsOf params X.env = ([], [])) (hbind : ∀ (q : Str) (cl : List (Str × Addr)) (pm cv ctv : Value), bindArgs (PySem.W.kla_fn "<lambda>" q params body scope cl pm cv ctv) ⟨[], []⟩ = pure [])
    (hbody : ∀ (A : Around) (outer : List Env) (s : Shared) (H : Hp) (E : XK) (f c' : Addr), Room k (A.deeper (lamEnv X scope s.heap.objs.size f c')) → PE (lamCx X A outer s H E scope f c') body (t E)) :
    PE X (.Call (.Name x p) [.Lambda params body scope lpos] [] pos) (tLamN T TT t) := by
  obtain ⟨g, pg, bg, sg, dV, kV, doc, pm, cdv, ct, oc, an, od, osl, Ng, hm, hk, lk, hcg, hb, Sg, hNg, hva, hG⟩ := M.callee
  obtain ⟨c, P, TB, hcode, hmT, hu⟩ := M.tab
  constructor
  intro pins s σ H Q I want
  refine wpAny_Call_Name_kw (ld_glob I M.hg hm ?_ M.hdb)
  refine PySem.W.callWith_K (h₀ := X.base) I.ok.mod.kin hk ?_ (by rfl) (by rfl)
  show wpAny _ _ (spliced ((false, eval (.Lambda params body scope lpos) X.env) :: backTo pos (starEach [] X.env))) _ _ s
  refine Calls.spliced_cons (lam_new rfl I TB hcode hmT hu want.1 hdef (L.has I.ok) fun f c' pm' ctv H1 s' J lam isF noF offF isC => Calls.spliced_nil ⟨J.kIn, ?_⟩)
  refine wpAny_call (codeAny_mono (R := CR C8.CX0 X.stack X.prog X.w H1 s' Q C8.E0) ?_ fun r s2 hq => ?_)
  · refine run_ofS (N := Ng) (ps := [a]) (us := [.ref f]) (vs := [.ref f]) lk hcg Sg M.hr J.env0 (hb s' [.ref f] J.kIn rfl) (.cons rfl .nil) rfl fun hr' => ?_
    obtain ⟨t', run, pre⟩ := hG f c' s' H1 Q (fun E H' Q' => t E σ H' Q') (fun W pn xe E p1 p2 tk hW => pe_act (i := 0) J L isF noF offF (hbind _ _ _ _ _) tk hW hr' (fun A outer s H hr2 => hbody A outer s H E f c' hr2) hNg hva M.hd M.hcd) isC (want.2 H1 lam)
    exact ⟨t', run.nox, pre⟩
  · match r, hq with
    | .ok (.ret u), hq => exact J.after hq
end DL
set_option maxRecDepth 100000
set_option maxHeartbeats 2000000
/-! x(lambda: ..), x a def that calls what it got and tells of errors: Di -/
namespace DL
open PySem PySem.Spec PyProof.Rows L2 LamX
structure Cl where
  C : Addr
  its : List It
def rowOf : List Cl → Addr → Option Cl
  | [], _ => none
  | k :: r, C => if k.C = C then some k else rowOf r C
def clTs (K : PySem.W.Frag) (i : Nat) (f : Str) (cl : Cl) : Addr → Value → Option Addr → TS := fun a cls d D σ H => ∃ dd v r, Caught K i a cl.C dd f v r cls d σ H ∧ (∀ it ∈ cl.its, it.need r) ∧ ∀ p, H p = none → D.rt (.ref p) (upd H p (.tup (cl.its.map (·.val v r))))
theorem suite_ok {X : Cx} {a : Addr} {oe : Obj} {cls : Value} {d : Option Addr} {pn : List (Addr × Obj)} {i : Nat} {f : Str} {es : List Expr} {k} {pos pos2 : Pos} (cl : Cl) (hl : cl.its.length ≤ 64) (ha : ∀ dd v r, PA (X.suite a ((a, oe) :: pn)) es (tItA X.K i a cl.C dd f v r cls d cl.its)) :
    PSs (X.suite a ((a, oe) :: pn)) [.Return (some (.Tuple es k pos)) pos2] (clTs X.K i f cl a cls d) := by
  constructor
  rintro pins s σ H D I ⟨dd, v, r, c, nd, q⟩
  refine (pss_one (ps_ret (pe_tup (ha dd v r)))).run pins s σ H D I ?_
  exact ⟨c, nd, by simp only [List.length_map]; exact Nat.le_trans hl (by decide), q⟩
/-- what an error's class and field want -/
def ErrW (K : PySem.W.Frag) (f : Str) (cls : List Cl) (c : Value) (d : Option Addr) (H : Hp) (Q : VK) : Prop := ∃ (C dd : Addr) (v : V) (r : PyData) (cl : Cl), c = .ref C ∧ d = some dd ∧ H dd = some (.xd [(f, v)]) ∧ Dp K H v r ∧ r.hasDict = false ∧ rowOf cls C = some cl ∧ (∀ it ∈ cl.its, it.need r) ∧ ∀ p, H p = none → Q (.ref p) (upd H p (.tup (cl.its.map (·.val v r))))
def TTa (K : PySem.W.Frag) (f : Str) (cls : List Cl) (ret : List V) : (XK → Hp → VK → Prop) → Hp → VK → Prop := fun tl H Q =>
  tl (fun c d H' => ErrW K f cls c d H' Q) H fun _ H' => ret.length ≤ sizeLine ∧ ∀ p, H' p = none → Q (.ref p) (upd H' p (.tup ret))
/-- the classes are told apart -/
def Apart (K : PySem.W.Frag) (cls : List Cl) : Prop := ∀ k ∈ cls, ∀ k' ∈ cls, PySem.W.exmOne K (.ref k.C) (.ref k'.C) = some (decide (k.C = k'.C))
theorem cls_want {K : PySem.W.Frag} {i : Nat} {f : Str} {D : Ends} {Q : VK} (hD : ∀ v H, Q v H → D.rt v H) {all : List Cl} (ap : Apart K all) {c : Value} {d : Option Addr} {σ : L2.St} {H : Hp} :
    ∀ cls : List Cl, (∀ k ∈ cls, k ∈ all) → ErrW K f cls c d H Q → (∃ k ∈ all, c = .ref k.C) → wCls K (fun _ _ _ _ => False) D (cls.map fun cl => ⟨.ref cl.C, i, clTs K i f cl⟩) c d σ H
  | [], _, ⟨C, dd, v, r, cl, _, _, _, _, _, e, _⟩, _ => by cases e
  | k :: rest, hm, h, ⟨k0, hk0, ec⟩ => by
    obtain ⟨C, dd, v, r, cl, rfl, rfl, eh, dp, nd, e, nn, q⟩ := h
    have e0 : C = k0.C := by injection ec
    have ex := ap k0 hk0 k (hm k List.mem_cons_self)
    rw [← e0] at ex
    refine ⟨_, ex, fun hb a ha => ?_, fun hb => ?_⟩
    · have hb' : C = k.C := of_decide_eq_true hb
      have e1 : cl = k := by
        simp only [rowOf, hb'.symm, if_true] at e
        exact (Option.some.inj e).symm
      subst e1
      exact ⟨dd, v, r, ⟨⟨σ, rfl⟩, by rw [hb'], rfl, eh, dp, nd⟩, nn, fun p hp => hD _ _ (q p hp)⟩
    · have hb' : ¬ C = k.C := of_decide_eq_false hb
      have e1 : rowOf rest C = some cl := by
        simp only [rowOf] at e
        rw [if_neg (fun z => hb' z.symm)] at e
        exact e
      exact cls_want hD ap rest (fun k' h' => hm k' (List.mem_cons_of_mem _ h')) ⟨C, dd, v, r, cl, rfl, rfl, eh, dp, nd, e1, nn, q⟩ ⟨k0, hk0, ec⟩
theorem rowOf_mem : ∀ {cls : List Cl} {C : Addr} {cl : Cl}, rowOf cls C = some cl → cl ∈ cls ∧ cl.C = C
  | k :: r, C, cl, e => by
    simp only [rowOf] at e
    split at e
    · cases e; exact ⟨List.mem_cons_self, by assumption⟩
    · have := rowOf_mem e; exact ⟨List.mem_cons_of_mem _ this.1, this.2⟩
/-- try: a() / except ..: return (..) / return (..) -/
theorem gives_a {X : Cx} {Ng : List Str} {x a q f : Str} {sg : Scope} {g : Addr} {cdg : Value} {i : Nat} {h₀ : ExceptHandler} {hds : List ExceptHandler} {es : List Expr} {k} {p1 p2 p3 p4 p5 p8 : Pos} {cls : List Cl} {ret : List V}
    (hN : Ng.Nodup) (h0 : ∀ f : Addr, (L2.start Ng [V.ref f])[0]? = some (some (V.ref f))) (ap : Apart X.K cls)
    (hcl : ∀ s H, ClsOk ((cxOf C8.CX0 X.prog X.w X.K X.mg X.base Ng x sg g cdg X.A X.stack s H C8.E0).nox) (h₀ :: hds) (cls.map fun cl => ⟨.ref cl.C, i, clTs X.K i f cl⟩))
    (hret : ∀ s H, PA ((cxOf C8.CX0 X.prog X.w X.K X.mg X.base Ng x sg g cdg X.A X.stack s H C8.E0).nox) es (fun σ H Q => Q ret H)) :
    GivesTo X Ng x sg g cdg [.Try [.Expr (.Call (.Name a p1) [] [] p2) p3] (h₀ :: hds) [] [] p8, .Return (some (.Tuple es k p4)) p5] a q (TTa X.K f cls ret) := by
  intro fn c' s H Q tl act hc h
  refine ⟨_, pss_cons (ps_tryN (X := (cxOf C8.CX0 X.prog X.w X.K X.mg X.base Ng x sg g cdg X.A X.stack s H C8.E0).nox)
      (tb := fun W D σ H => ∃ Ech : XK, (∀ cls d σ' H', Ech cls d H' → W cls d σ' H') ∧ σ[0]? = some (some (.ref fn)) ∧ H c' = some (CodeO c' q) ∧ tl Ech H (fun _ H' => D.nx σ H'))
      rfl rfl hN L2.takes0 (fun W pn xe tk _ => ?_) (hcl s H)) (pss_one (ps_ret (pe_tup (hret s H)))), ?_⟩
  · constructor
    rintro pins s' σ H' D I ⟨Ech, hW, h1, h2, h3⟩
    exact (pss_one (ps_expr (pos := p3) (act W pn xe Ech p1 p2 tk hW))).run pins s' σ H' D I ⟨h1, h2, h3⟩
  · refine ⟨fun c d H' => ErrW X.K f cls c d H' Q, fun c d σ' H' hw => ?_, h0 fn, hc, h⟩
    have hk : ∃ k ∈ cls, c = .ref k.C := by
      obtain ⟨C, dd, v, r, cl, rfl, _, _, _, _, e, _⟩ := hw
      obtain ⟨m, rfl⟩ := rowOf_mem e
      exact ⟨cl, m, rfl⟩
    exact cls_want (fun v H q => q) ap cls (fun k hk => hk) hw hk
/-! ### on data -/
theorem grow_lam {k : DKi} {dk : DK} (hk : dk = some k) {H H1 G : Hp} (s : Same G H) (d : DkOk dk H G) (ex : ExtN H H1) (T1 : Tabs k.T H1) (nt : ∀ b ps, H1 b = some (.tbl ps) → ∃ q, (b, q) ∈ k.T) : Grow dk H G H1 G := by
  obtain ⟨ne, ⟨cells, m, t, h1, h2, h3⟩, g1, g2, g3, g4, g5⟩ := d k hk
  refine ⟨fun b o h => ex b o (s b o h) fun ps e => g4 b ps (by rw [← e]; exact h), fun b o h => h, fun b o _ h z => ex b o h z, fun b ps h => ?_, fun b o h => .inl h, fun k' e => ?_⟩
  · obtain ⟨q, hq⟩ := g5 b ps h
    obtain ⟨ps', h', _⟩ := T1 _ hq
    exact ⟨ps', h'⟩
  · rw [hk] at e
    cases e
    exact ⟨ne, ⟨cells, m, t, ex _ _ h1 (fun ps e => by cases e), ex _ _ h2 (fun ps e => by cases e), h3⟩, g1, g2, T1, g4, nt⟩
theorem rep_lam {k : DKi} {K : PySem.W.Frag} {F : Fx} (hk : F.dk = some k) {ρ : Env'} {σ : L2.St} {H H1 G : Hp} {ow : Nat → List Addr} (R : Rep K F ρ σ H G ow) (g : Grow F.dk H G H1 G) : Rep K ⟨H1, G, F.dk⟩ (noOwn ρ) σ H1 G fun _ => [] where
  s0 := g.sub
  d0 := g.dk
  gr := Grow.refl g.sub g.dk
  len := by rw [R.len]; simp [noOwn]
  sl := fun i t e => by
    simp only [noOwn, List.getElem?_map, Option.map_eq_some_iff] at e
    obtain ⟨t0, e0, e⟩ := e
    have q := R.sl i t0 e0
    cases t0 with
    | d x => subst e; obtain ⟨_, v, h1, h2⟩ := q; exact ⟨rfl, v, h1, h2⟩
    | dk => subst e; exact ⟨rfl, q.2⟩
    | un => subst e; exact rfl
    | l _ => subst e; exact rfl
    | k _ => subst e; exact rfl
    | t _ => subst e; exact rfl
  fr := fun i p h => absurd h (by simp)
  dj := fun i j p h => absurd h (by simp)
theorem dqa_vals {K : PySem.W.Frag} {G : Hp} {v : V} {r : PyData} (h : Dq K G v r) : ∀ its : List It, DqAll K G (its.map (·.val v r)) (its.map (·.dat r))
  | [] => .nil
  | .str x :: its => .cons (.str x) (dqa_vals h its)
  | .fld :: its => .cons h (dqa_vals h its)
  | .rep :: its => .cons (.str _) (dqa_vals h its)
  | .isi :: its => .cons (.bl true) (dqa_vals h its)
theorem dqa_txts {K : PySem.W.Frag} {G : Hp} : ∀ rs : List Str, DqAll K G (rs.map V.str) (rs.map PyData.str)
  | [] => .nil
  | x :: rs => .cons (.str x) (dqa_txts rs)
abbrev WX' := (Addr → PyData → Prop) → WE
def MonoX (wb : WX') : Prop := ∀ Ex Ex' ρ Q Q', (∀ C d, Ex C d → Ex' C d) → (∀ d, Q d → Q' d) → wb Ex ρ Q → wb Ex' ρ Q'
theorem room65 {k : Nat} {A : Around} (hr : Room k A) : A.units + 65 < cLine := by have := hr.un; omega
theorem wVar_mono {i : Nat} : Mono (wVar i) := fun ρ Q Q' k ⟨d, h1, h2⟩ => ⟨d, h1, k _ h2⟩
theorem pNil_mono : Mono pNil := fun ρ Q Q' k q => k _ q
theorem monoX_call {w : WF} {wr : WP} (hw : MonoF w) (hr : Mono wr) : MonoX (fun Ex => wCall w wr Ex) := fun Ex Ex' ρ Q Q' he hq q => hr ρ _ _ (fun ss q => hw ss _ _ _ _ hq he q) q
/-- what x(lambda: ..) tells -/
def wHeard (cls : List Cl) (rs : List Str) (wb : WX') : WE := fun ρ Q => rs.length ≤ sizeLine ∧ wb (fun C r => ∃ cl, rowOf cls C = some cl ∧ (∀ it ∈ cl.its, it.need r) ∧ Q (.tuple (cl.its.map (·.dat r)))) (noOwn ρ) fun _ => Q (.tuple (rs.map .str))
theorem se_heard {X : Cx} {F : Fx} {k : DKi} {cls : List Cl} {rs : List Str} {wb : WX'} {kl : Nat} {x a : Str} {params : Arguments} {body : Expr} {scope : Scope} {p lpos pos : Pos} (hk : F.dk = some k) (hm : MonoX wb)
    (M : LamTo X k.T x a kl (TTa X.K "thing" cls (rs.map V.str))) (L : LamS X.env.scope scope) (hdef : defaultsOf params X.env = ([], [])) (hbind : ∀ (q : Str) (cl : List (Str × Addr)) (pm cv ctv : Value), bindArgs (PySem.W.kla_fn "<lambda>" q params body scope cl pm cv ctv) ⟨[], []⟩ = pure [])
    (hb : ∀ (A : Around) (outer : List Env) (s : Shared) (H : Hp) (E : XK) (f c' : Addr) (F' : Fx), Room kl (A.deeper (lamEnv X scope s.heap.objs.size f c')) → SE (lamCx X A outer s H E scope f c') F' body (wb (exD X.K F' E))) :
    SE X F (.Call (.Name x p) [.Lambda params body scope lpos] [] pos) (wHeard cls rs wb) := by
  refine ⟨pe_imp (pe_lamN (t := fun E σ H Q => ∃ F', liftE X.K F' (wb (exD X.K F' E)) σ H Q) M L hdef hbind fun A outer s H E f c' hr => ⟨fun pins s' σ H' Q I ⟨F', q⟩ => (hb A outer s H E f c' F' hr).pe.run pins s' σ H' Q I q⟩) ?_, ?_⟩
  · rintro σ H Q ⟨ρ, G, ow, R, hz, q⟩
    have d := R.dkok
    obtain ⟨ne, da, g1, g2, g3, g4, g5⟩ := d k hk
    refine ⟨g3, fun H1 lam => ?_⟩
    have gr : Grow F.dk H G H1 G := grow_lam hk R.gr.sub d lam.ext lam.tabs fun b ps e => by
      obtain ⟨ps0, e0⟩ := lam.old b ps e
      exact g5 b ps0 e0
    refine ⟨⟨H1, G, F.dk⟩, noOwn ρ, G, _, rep_lam hk R gr, hm _ _ _ _ _ ?_ ?_ q⟩
    · rintro C r ⟨cl, e, nd, q0⟩ v dd H' G' g hdd dv
      refine ⟨C, dd, v, r, cl, rfl, rfl, hdd, Dq.dp _ _ (dp_mono g.sub _ _ dv), dq_hasDict _ _ dv, e, nd, fun p hp => ?_⟩
      have g2 := Grow.new (o := .tup (cl.its.map (·.val v r))) g.sub g.dk hp
      exact q0 (.ref p) _ _ ((gr.trans g d).trans g2 d) (.tup (.inl (.inl upd_same)) (dpa_mono g2.gg _ _ (dqa_vals dv cl.its)))
    · intro d0 q0 v H' G' g dv
      refine ⟨by rw [List.length_map]; exact hz, fun p hp => ?_⟩
      have g2 := Grow.new (o := .tup (rs.map V.str)) g.sub g.dk hp
      exact q0 (.ref p) _ _ ((gr.trans g d).trans g2 d) (.tup (.inl (.inl upd_same)) (dqa_txts rs))
  · rintro ρ Q Q' hQ ⟨hz, q⟩
    exact ⟨hz, hm _ _ _ _ _ (fun C r ⟨cl, e, nd, q0⟩ => ⟨cl, e, nd, hQ _ q0⟩) (fun _ q0 => hQ _ q0) q⟩
end DL
set_option maxRecDepth 100000
set_option maxHeartbeats 4000000
/-! the deck's making: Dn -/
namespace DL
open PySem PySem.Spec L2
/-- what is behind the deck's making: the dict at p, its cells at l, all else as before -/
structure DeckNew (H H' : Hp) (p l : Addr) (m t : Int) (cells : List Int) : Prop where
  old : ∀ b o, H b = some o → H' b = some o
  np : H p = none
  nl : H l = none
  ne : p ≠ l
  at_ : H' p = some (.dK (deckV l m t))
  cl : H' l = some (.lst (cells.map V.int))
  few : cells.length ≤ 1000
  nt : ∀ b ps, H' b = some (.tbl ps) → H b = some (.tbl ps)
def spDeck (K : PySem.W.Frag) : Sp := fun vs H Q _ => ∃ (a : Addr) (ns : List Int) (m0 : Int), vs = [.ref a, .int m0] ∧ SqL K H a (ns.map V.int) ∧ ns.length ≤ 1000 ∧ ∀ p l m t cells H', DeckNew H H' p l m t cells → Q (.ref p) H'
theorem cutV_len {xs : List V} {lo hi : Option Int} : (cutV xs lo hi).length ≤ xs.length := by
  unfold cutV
  rw [List.length_take, List.length_drop]; omega
theorem cutV_ints (ns : List Int) (lo hi : Option Int) : ∃ ms : List Int, cutV (ns.map V.int) lo hi = ms.map V.int ∧ ms.length ≤ ns.length := by
  refine ⟨(ns.drop (HT.sIx ns.length 0 lo)).take (HT.sIx ns.length ns.length hi - HT.sIx ns.length 0 lo), ?_, ?_⟩
  · unfold cutV; simp [List.map_take, List.map_drop]
  · rw [List.length_take, List.length_drop]; omega
theorem ints_at {ns : List Int} {i : Nat} {x : V} (h : (ns.map V.int)[i]? = some x) : ∃ z, x = .int z ∧ ns[i]? = some z := by
  rw [List.getElem?_map] at h
  cases e : ns[i]? with
  | none => rw [e] at h; cases h
  | some z => rw [e] at h; exact ⟨z, (Option.some.inj h).symm, rfl⟩
/-- new objects that are no tables -/
structure Ext (H H' : Hp) : Prop where
  old : ∀ b o, H b = some o → H' b = some o
  nt : ∀ b ps, H' b = some (.tbl ps) → H b = some (.tbl ps)
theorem Ext.refl (H : Hp) : Ext H H := ⟨fun _ _ h => h, fun _ _ h => h⟩
theorem Ext.new {H H' : Hp} (e : Ext H H') {p : Addr} {o : HO} (hp : H' p = none) (no : ∀ ps, o ≠ .tbl ps) : Ext H (upd H' p o) where
  old := fun b u h => by rw [upd_ne (ne_of_none (e.old b u h) hp)]; exact e.old b u h
  nt := fun b ps h => by
    by_cases z : b = p
    · rw [z, upd_same] at h; exact absurd (Option.some.inj h) (no ps)
    · rw [upd_ne z] at h; exact e.nt b ps h
theorem Ext.free {H H' : Hp} (e : Ext H H') {p : Addr} (h : H' p = none) : H p = none := by
  cases q : H p with
  | none => rfl
  | some o => rw [e.old p o q] at h; cases h
/-- written again, not there at first -/
theorem Ext.put {H H' : Hp} (e : Ext H H') {p : Addr} {o : HO} (hp : H p = none) (no : ∀ ps, o ≠ .tbl ps) : Ext H (upd H' p o) where
  old := fun b u h => by rw [upd_ne (ne_of_none h hp)]; exact e.old b u h
  nt := fun b ps h => by
    by_cases z : b = p
    · rw [z, upd_same] at h; exact absurd (Option.some.inj h) (no ps)
    · rw [upd_ne z] at h; exact e.nt b ps h
end DL
set_option maxRecDepth 100000
/-! what is printed of data is of plain signs: Do -/
namespace DL
open PySem PySem.Spec L2
theorem ascii_list {x : Str} : ascii x = x.cps.toList.all (· < 128) := by
  unfold ascii; rw [Array.all_toList]
theorem ascii_cat {x y : Str} (h : ascii x = true) (h' : ascii y = true) : ascii (x ++ y) = true := by
  unfold ascii at *
  show (x.cps ++ y.cps).all _ = true
  rw [Array.all_append, h, h']; rfl
open PySem.Builtin.Str in
theorem repr_signs : (List.range 128).all (fun c => (reprChar 34 c).all (· < 128) && (reprChar 39 c).all (· < 128)) = true := by decide +kernel
open PySem.Builtin.Str in
theorem reprChar_low {q c : Nat} (hq : q = 34 ∨ q = 39) (hc : c < 128) : ∀ d ∈ reprChar q c, d < 128 := by
  have h := List.all_eq_true.mp repr_signs c (List.mem_range.mpr hc)
  simp only [Bool.and_eq_true, List.all_eq_true, decide_eq_true_eq] at h
  rcases hq with rfl | rfl
  · exact h.1
  · exact h.2
theorem fold_low {q : Nat} (hq : q = 34 ∨ q = 39) : ∀ (l : List Nat) (acc : Array Nat), (∀ c ∈ l, c < 128) → (∀ d ∈ acc.toList, d < 128) → ∀ d ∈ (l.foldl (fun out c => out ++ (PySem.Builtin.Str.reprChar q c).toArray) acc).toList, d < 128
  | [], acc, _, h => h
  | c :: l, acc, hl, h => by
    refine fold_low hq l _ (fun d hd => hl d (List.mem_cons_of_mem _ hd)) fun d hd => ?_
    rw [Array.toList_append] at hd
    rcases List.mem_append.mp hd with z | z
    · exact h d z
    · exact reprChar_low hq (hl c List.mem_cons_self) d z
theorem reprText_ascii {x : Str} (h : ascii x = true) : ascii (reprText x) = true := by
  have hq : reprQuote x = 34 ∨ reprQuote x = 39 := by unfold reprQuote; split <;> simp
  have h1 : ∀ c ∈ x.cps.toList, c < 128 := fun c hc => of_decide_eq_true (List.all_eq_true.mp (by rw [ascii_list] at h; exact h) c hc)
  rw [ascii_list, List.all_eq_true]
  intro d hd
  refine decide_eq_true ?_
  unfold reprText at hd
  rw [← Array.foldl_toList] at hd
  have hd2 : d ∈ ((x.cps.toList.foldl (fun out c => out ++ (PySem.Builtin.Str.reprChar (reprQuote x) c).toArray) #[reprQuote x]).push (reprQuote x)).toList := hd
  rw [Array.toList_push] at hd2
  have hq2 : reprQuote x < 128 := by rcases hq with e | e <;> omega
  rcases List.mem_append.mp hd2 with z | z
  · refine fold_low hq _ _ h1 (fun e he => ?_) d z
    have : e = reprQuote x := by simpa using he
    omega
  · have : d = reprQuote x := by simpa using z
    omega
theorem textFrom_ascii : ∀ (ts : List Str) (k : Nat) (acc : Str), ascii acc = true → (∀ t ∈ ts, ascii t = true) → ascii (textFrom k acc ts) = true
  | [], _, acc, h, _ => h
  | t :: ts, k, acc, h, ht => by
    refine textFrom_ascii ts (k + 1) _ (ascii_cat (ascii_cat h ?_) (ht t List.mem_cons_self)) fun u hu => ht u (List.mem_cons_of_mem _ hu)
    split <;> decide +kernel
theorem join_ascii : ∀ ts : List Str, (∀ t ∈ ts, ascii t = true) → ascii (Str.join ", " ts) = true
  | [], _ => by decide +kernel
  | [x], h => h x List.mem_cons_self
  | x :: y :: r, h => by
    show ascii (x ++ ", " ++ Str.join ", " (y :: r)) = true
    exact ascii_cat (ascii_cat (h x List.mem_cons_self) (by decide +kernel)) (join_ascii (y :: r) fun t ht => h t (List.mem_cons_of_mem _ ht))
theorem low_repr {n : Nat} {c : Char} (h : c ∈ n.repr.toList) : c.toNat < 128 := by
  rw [Nat.repr_eq_ofList_toDigits] at h
  have h1 : c ∈ Nat.toDigits 10 n := by simpa using h
  have h2 := Nat.isDigit_of_mem_toDigits (by decide) (by decide) h1
  simp only [Char.isDigit, Bool.and_eq_true, decide_eq_true_eq] at h2
  have h3 : c.val ≤ '9'.val := h2.2
  have h4 : c.val.toNat ≤ '9'.val.toNat := h3
  have h5 : '9'.val.toNat = 57 := rfl
  show c.val.toNat < 128
  omega
theorem num_ascii (i : Int) : ascii (Str.ofString (toString i)) = true := by
  rw [ascii_list, Str.ofString_eq_toList, Int.toString_eq_repr, Int.repr_eq_if]
  show List.all (List.map Char.toNat _) _ = true
  rw [List.all_map, List.all_eq_true]
  intro c hc
  simp only [Function.comp, decide_eq_true_eq]
  split at hc
  · exact low_repr hc
  · rw [String.toList_append] at hc
    rcases List.mem_append.mp hc with h | h
    · have : c = '-' := by simpa using h
      rw [this]; decide
    · exact low_repr h
mutual
theorem shown_ascii {B : Nat} : ∀ d : PyData, fit B d = true → ascii d.shown = true
  | .none, _ => by show ascii ("None" : String) = true; decide +kernel
  | .bool true, _ => by show ascii ("True" : String) = true; decide +kernel
  | .bool false, _ => by show ascii ("False" : String) = true; decide +kernel
  | .int i, _ => num_ascii i
  | .str x, h => reprText_ascii h
  | .list xs, h => by
    show ascii (textFrom 0 "[" (PyData.shownAll xs) ++ "]") = true
    exact ascii_cat (textFrom_ascii _ _ _ (by decide +kernel) (shownAll_ascii xs h)) (by decide +kernel)
  | .tuple xs, h => by
    show ascii (("(" : Str) ++ Str.join ", " (PyData.shownAll xs) ++ (if (PyData.shownAll xs).length == 1 then ",)" else ")" : String)) = true
    refine ascii_cat (ascii_cat (by decide +kernel) (join_ascii _ (shownAll_ascii xs h))) ?_
    split <;> decide +kernel
  | .dict _, h => by simp [fit] at h
theorem shownAll_ascii {B : Nat} : ∀ ds : List PyData, fits B ds = true → ∀ t ∈ PyData.shownAll ds, ascii t = true
  | [], _, t, ht => by simp [PyData.shownAll] at ht
  | d :: ds, h, t, ht => by
    simp only [fits, Bool.and_eq_true] at h
    simp only [PyData.shownAll, List.mem_cons] at ht
    rcases ht with rfl | ht
    · exact shown_ascii d h.1
    · exact shownAll_ascii ds h.2 t ht
end
theorem shownOk_of {B : Nat} {d : PyData} (hB : B ≤ 2 ^ 1900) (f : fit B d = true) (h : wt d ≤ 16777216) (hd : d.depth ≤ 64) : shownOk d = true := by
  have h1 := shown_le d f
  have h2 : d.shown.length ≤ sizeLine := Nat.le_trans (Nat.le_trans h1 h) (by decide)
  simp [shownOk, showable_of hB d f, h2, hd]
theorem eq_self {d : PyData} (h : d.canLay0 = true) (hd : d.depth ≤ 64) : eqD d d = some (.bool true) := by
  simp [eqD, cmpOk, h, hd, PySem.SeqAt.eqv_refl d h]
theorem ne_self {d : PyData} (h : d.canLay0 = true) (hd : d.depth ≤ 64) : neD d d = some (.bool false) := by
  simp [neD, cmpOk, h, hd, PySem.SeqAt.eqv_refl d h]
end DL
set_option maxRecDepth 100000
set_option maxHeartbeats 2000000
/-! the end: the law is called by the claim's caller alone; one table of code objects: De -/
namespace DL
open PySem PySem.Spec PyProof.Rows L2 LamX
abbrev emptyTab : Obj := { cls := .none, data := .fields #[] }
/-- what the law's run is, once its heap is told -/
def LawRun (P : Program) (w : World) (K : PySem.W.Frag) (mg : Str → Option Value) (fa a c Pt : Addr) (ns : List Int) (s : Shared) : Prop :=
  ∀ (base : Heap) (H : Hp), K.In base → base.Ns mainGlobals mg → TabB base mg c Pt → H Pt = some (.tbl #[]) → (∀ b ps, H b = some (.tbl ps) → b = Pt) → SqL K H a (ns.map V.int) →
    Env0 P w K mg base callerA [] s H → codeAny (model P w) callerA (.call (.ref fa) ⟨[.ref a], []⟩) (CR L2.CX0 [] P w H s (fun v _ => v = .bl true) L2.E0) s
theorem law_run {P : Program} {w : World} {K : PySem.W.Frag} {mg mb : Str → Option Value} {fa a c Pt : Addr} {s : Shared} {vs : List Value} {ns : List Int}
    (inK : K.In s.heap) (glob : s.heap.Ns mainGlobals mg) (blt : s.heap.Ns builtinsNs mb) (bltB : ∀ x : Str, x ≠ "__name__" → mb x = bootBuiltins x) (lim : s.heap.NoLimit) (noGen : s.gens = #[])
    (tab : s.heap.get? Pt = some emptyTab) (tabK : K.lookup Pt = none) (C : PySem.W.CodeHd s.heap c Pt)
    (main : ∃ (bm : Addr) (ob : Obj), mg "__builtins__" = some (.ref bm) ∧ bm ≠ builtinsNs ∧ s.heap.get? bm = some ob ∧ ob.cls = .type "module" ∧ ob.dict = some builtinsNs ∧ ob.data = .plain)
    (scr : s.heap.get? a = some { cls := .type "list", data := .seq vs.toArray }) (isI : IntsAre vs ns) (len : ns.length ≤ sizeLine) (F : LawRun P w K mg fa a c Pt ns s) :
    codeAny (model P w) callerA (.call (.ref fa) ⟨[.ref a], []⟩) (fun r s' => r = .ok (.ret (.bool true)) ∧ OldK s.heap s'.heap ∧ s'.os = s.os ∧ AllBare s'.gens) s := by
  have vals := vals_ints isI
  have aNe : a ≠ Pt := by
    rintro rfl
    rw [scr] at tab
    cases congrArg Obj.data (Option.some.inj tab)
  -- what H tracks: the table, perhaps the script
  suffices core : ∀ H : Hp, H Pt = some (.tbl #[]) → (∀ b, b ≠ Pt → b ≠ a → H b = none) → (H a = none ∨ ∃ o xs, H a = some (.frz o (.lst xs))) → SqL K H a (ns.map V.int) → HOk P w H s.heap → (H a ≠ none → K.lookup a = none) →
      codeAny (model P w) callerA (.call (.ref fa) ⟨[.ref a], []⟩) (fun r s' => r = .ok (.ret (.bool true)) ∧ OldK s.heap s'.heap ∧ s'.os = s.os ∧ AllBare s'.gens) s by
    rcases look : K.lookup a with _ | o
    · -- the script is tracked
      let fz : HO := .frz { cls := .type "list", data := .seq vs.toArray } (.lst (ns.map V.int))
      let H : Hp := fun b => if b = a then some fz else if b = Pt then some (.tbl #[]) else none
      have hA : H a = some fz := if_pos rfl
      have hP : H Pt = some (.tbl #[]) := (if_neg (Ne.symm aNe)).trans (if_pos rfl)
      refine core H hP (fun b n1 n2 => (if_neg n2).trans (if_neg n1)) (.inr ⟨_, _, hA⟩) (.inl (.inr ⟨_, hA⟩)) (fun b u z => ?_) fun _ => look
      by_cases e1 : b = a
      · rw [e1, hA] at z
        cases z
        rw [e1]
        exact ⟨scr, by rw [List.length_map]; exact len, vs, _, vals, scr⟩
      · by_cases e2 : b = Pt
        · rw [e2, hP] at z
          cases z
          rw [e2]
          exact tab
        · have q : H b = none := (if_neg e1).trans (if_neg e2)
          rw [q] at z
          cases z
    · -- the script is written in the text
      have at_ := inK a o look
      rw [scr] at at_
      cases at_
      let H : Hp := fun b => if b = Pt then some (.tbl #[]) else none
      have hP : H Pt = some (.tbl #[]) := if_pos rfl
      have hA : H a = none := if_neg aNe
      refine core H hP (fun b n1 _ => if_neg n1) (.inl hA) (.inr ⟨_, vs.toArray, _, look, rfl, rfl, rfl, by rw [List.size_toArray, isI.length]; exact len, by simpa using vals⟩) (fun b u z => ?_) fun z => absurd hA z
      by_cases e2 : b = Pt
      · rw [e2, hP] at z
        cases z
        rw [e2]
        exact tab
      · have q : H b = none := if_neg e2
        rw [q] at z
        cases z
  intro H hP other hA sq hok notK
  have free : ∀ {b : Addr} {o : Obj}, s.heap.get? b = some o → (∀ xs n, o.data ≠ .seq xs n) → o.data ≠ .fields #[] → H b = none := by
    intro b o e n1 n2
    by_cases e1 : b = a
    · subst e1
      rw [scr] at e
      cases e
      exact absurd rfl (n1 _ _)
    · by_cases e2 : b = Pt
      · subst e2
        rw [tab] at e
        cases e
        exact absurd rfl n2
      · exact other b e2 e1
  have low : ∀ {b : Addr} {o : Obj}, s.heap.get? b = some o → (∀ xs n, o.data ≠ .seq xs n) → o.data ≠ .fields #[] → (hidT s.heap H).get? b = some o := fun e n1 n2 => hidT_get e (free e n1 n2)
  have lowNs : ∀ {b : Addr} {m : Str → Option Value}, s.heap.Ns b m → (hidT s.heap H).Ns b m := by
    rintro b m ⟨o, es, ep, e, d, r⟩
    exact ⟨o, es, ep, low e (fun xs n z => by rw [d] at z; cases z) (fun z => by rw [d] at z; cases z), d, r⟩
  have lowK : K.In (hidT s.heap H) := by
    intro b o e
    refine hidT_get (inK b o e) ?_
    by_cases e1 : b = a
    · rcases q : H a with _ | u
      · rw [e1]; exact q
      · have := notK (by rw [q]; simp)
        rw [e1, this] at e
        cases e
    · by_cases e2 : b = Pt
      · rw [e2, tabK] at e
        cases e
      · exact other b e2 e1
  have mod : L2.Mod K mg (hidT s.heap H) := ⟨lowK, lowNs glob, ⟨mb, lowNs blt, bltB⟩, let ⟨mc, h1, h2⟩ := lim; ⟨mc, lowNs h1, h2⟩⟩
  have tb : TabB (hidT s.heap H) mg c Pt := by
    refine ⟨?_, ?_, fun z => ?_⟩
    · obtain ⟨o, us, file, tf, flags, tg, inF, text, tt, e1, r1, r2, r3, rest⟩ := C
      exact ⟨o, us, file, tf, flags, tg, inF, text, tt, low e1 (fun xs n z => by rw [r2] at z; cases z) (fun z => by rw [r2] at z; cases z; simp at r3), r1, r2, r3, rest⟩
    · obtain ⟨bm, ob, b1, b2, b3, b4, b5, b6⟩ := main
      refine ⟨bm, ob, b1, b2, fun q => ?_, fun q => ?_, low b3 (fun xs n z => by rw [b6] at z; cases z) (fun z => by rw [b6] at z; cases z), b4, b5, b6⟩
      · obtain ⟨o, es, ep, e, hd, _⟩ := glob
        rw [q, e] at b3
        cases b3
        rw [hd] at b6
        cases b6
      · rw [q, tab] at b3
        cases b3
        cases b6
    · obtain ⟨o, es, ep, e, hd, _⟩ := glob
      rw [z, tab] at e
      cases e
      cases hd
  have e0 : Env0 P w K mg (hidT s.heap H) callerA [] s H := ⟨rfl, mod, fun b o e => of_hidT e, Nat.le_of_eq (hidT_size _ _), trivial, fun b hb => absurd (show b ∈ ([] : List Addr) from hb) (by simp), hok, .of_eq noGen⟩
  have only : ∀ b ps, H b = some (.tbl ps) → b = Pt := by
    intro b ps e
    by_cases e2 : b = Pt
    · exact e2
    · by_cases e1 : b = a
      · rcases hA with z | ⟨o, xs, z⟩
        · rw [e1, z] at e; cases e
        · rw [e1, z] at e; cases e
      · rw [other b e2 e1] at e; cases e
  refine codeAny_mono (F _ H lowK (lowNs glob) tb hP only sq e0) fun r s' h => ?_
  match r, h with
  | .ok (.ret u), ⟨v, H', os, bare, un, hok', rel, q⟩ =>
    have q' : v = .bl true := q
    subst q'
    obtain rfl : u = Value.bool true := rel
    have keep : ∀ b o, b ≠ Pt → s.heap.get? b = some o → s'.heap.get? b = some o := by
      intro b o n e
      rcases q : H b with _ | u
      · exact un.keep b o e q (by intro z; exact absurd (show b ∈ ([] : List Addr) from z) (by simp)) (by simp)
      · by_cases e1 : b = a
        · subst e1
          rcases hA with z | ⟨ob, xs, z⟩
          · rw [q] at z; cases z
          · obtain ⟨f1, _⟩ := hok b _ z
            obtain ⟨f2, _⟩ := hok' b _ (un.frzs b ob _ z)
            rw [e] at f1
            cases f1
            exact f2
        · rw [other b n e1] at q; cases q
    obtain ⟨more, grown⟩ : ∃ more : Array Value, s'.heap.get? Pt = some { cls := .none, data := .fields more } := by
      obtain ⟨more, z⟩ := un.tbls Pt #[] hP
      exact ⟨_, hok' Pt _ z⟩
    refine ⟨rfl, ⟨fun b o e => ?_, fun b o e => ?_⟩, os, bare⟩
    · by_cases hb : b = Pt
      · subst hb
        rw [tab] at e
        cases e
        exact .inr (.inl ⟨(C.tab tab).isCodeTable, rfl, #[], more, rfl, by rw [Array.empty_append]; exact grown⟩)
      · exact .inl (keep b o hb e)
    · by_cases hb : b = Pt
      · subst hb; exact ⟨_, grown⟩
      · exact ⟨o, keep b o hb e⟩
/-- the end of a law's row -/
theorem walk_run {l : PySem.W.OpenLaw} {n : Nat} {q : Program} {loose : List Str} {XP : (Str → Option Value) → Heap → Prop} {YP : World → Heap → Prop} {d : DefRec} {K : Params → PySem.W.Frag}
    (hn : l.most = some n) (hn2 : n ≤ sizeLine) (hdf : d.params.defaults = []) (hrec : ((recsOf q).any fun e => e.name == d.name) = true)
    (hY : ∀ (w : World) (h : Heap), YP w h → (K w.params).In h)
    (F : ∀ (w : World) (mg : Str → Option Value) (fa : Addr) (h : Heap), (K w.params).In h → h.Ns mainGlobals mg → mg d.name = some (.ref fa) → ∃ c Pt, PySem.W.tabIn (K w.params) d.name = some (c, Pt) ∧ (K w.params).lookup Pt = none ∧
      ∀ (a : Addr) (ns : List Int) (s : Shared), ns.length ≤ n → LawRun l.prog w (K w.params) mg fa a c Pt ns s) :
    PySem.W.WalkO q loose XP YP l.row.toRowW d [] (fun f vs => PySem.call f vs) := by
  refine Att.attach_callB hn hdf fun w s₀ s₁ mg mb fa o pm cd doc a vs ns G Y ho hd hcd hmg hobj hints hlen hbits hg => ?_
  have inK := hY w _ Y
  obtain ⟨c, Pt, ht, tk, run⟩ := F w mg fa _ inK G.T.g hmg
  obtain ⟨d', hd'⟩ : ∃ d', (recsOf q).find? (fun e => e.name == d.name) = some d' := by
    obtain ⟨e, he, hn⟩ := List.any_eq_true.mp hrec
    exact Option.isSome_iff_exists.mp (List.find?_isSome.mpr ⟨e, he, hn⟩)
  obtain ⟨C, tab⟩ := PySem.W.tab_of G.T inK hd' ht
  exact law_run inK G.T.g G.T.b G.T.builtins G.T.nolimit hg tab tk C G.T.bmain hobj hints (Nat.le_trans hlen hn2) (run a ns s₁ hlen)
end DL
set_option maxRecDepth 100000
set_option maxHeartbeats 8000000
namespace K66
open PySem PySem.Spec L2 DL DR
def g_0 {α : Type} : List α → List α
  | [x0] => [x0]
  | l => l
def g_1_0 {α : Type} : List α → List α
  | [x0, x1] => [x1, x0]
  | l => l
def g_JOINING : PyData := .tuple [.str "and", .str "or"]
def N_is_integer : List Str := ["thing"]
def b_is_integer : WS := (wRet (wAndV (wIsi isInt (wVar 0)) (wNotV (wIsi isBool (wVar 0)))))
def N_is_from : List Str := ["thing", "least"]
def b_is_from (w_is_integer : WF) : WS := (wRet (wAndV (wCall w_is_integer (wLen 1 (pD (wVar 0) pNil)) noEx) (w2 geD (wVar 0) (wVar 1))))
def N_is_tuple : List Str := ["thing", "many"]
def b_is_tuple : WS := (wRet (wAndV (wIsi isTup (wVar 0)) (w2 eqD (wCl lenD (wCons (wVar 0) wNil)) (wVar 1))))
def N_is_word_of : List Str := ["thing", "signs", "sign"]
def b_is_word_of : WS := (wRet (wAndV (wIsi isStr (wVar 0)) (wCl allD (wCons (wAsL (wLc [2] (wIS (wVar 0)) (gN 2) wYes (w2 (inSg false) (wVar 2) (wVar 1)))) wNil))))
def N_is_gate : List Str := ["thing", "many", "number", "part"]
def b_is_gate (w_is_from : WF) : WS := (wSeq (wIfS (wOr (wNot (wTst (wIsi isTup (wVar 0)))) (wOr (wTst (w2 eqD (wVar 0) (wTup wNil))) (wNot (wTst (wIsi isStr (w2 ixD (wVar 0) (wC (.int 0)))))))) (wRet (wC (.bool false))) wNext) (wSeq (wIfS (wTst (w2 eqD (w2 ixD (wVar 0) (wC (.int 0))) (wC (.str "yes")))) (wRet (w2 eqD (wCl lenD (wCons (wVar 0) wNil)) (wC (.int 1)))) wNext) (wSeq (wIfS (wTst (w2 eqD (w2 ixD (wVar 0) (wC (.int 0))) (wC (.str "v")))) (wRet (wAndV (w2 eqD (wCl lenD (wCons (wVar 0) wNil)) (wC (.int 2))) (wAndV (wCall w_is_from (wLen 2 (pD (w2 ixD (wVar 0) (wC (.int 1))) (pD (wC (.int 0)) pNil))) noEx) (w2 ltD (w2 ixD (wVar 0) (wC (.int 1))) (wVar 1))))) wNext) (wSeq (wIfS (wTst (w2 eqD (w2 ixD (wVar 0) (wC (.int 0))) (wC (.str "not")))) (wRet (wAndV (w2 eqD (wCl lenD (wCons (wVar 0) wNil)) (wC (.int 2))) (wAndV (wCall w_is_from (wLen 2 (pD (w2 ixD (wVar 0) (wC (.int 1))) (pD (wC (.int 0)) pNil))) noEx) (w2 ltD (w2 ixD (wVar 0) (wC (.int 1))) (wVar 2))))) wNext) (wSeq (wIfS (wOr (wTst (w2 (inTx true) (w2 ixD (wVar 0) (wC (.int 0))) (wC g_JOINING))) (wTst (w2 neD (wCl lenD (wCons (wVar 0) wNil)) (wC (.int 3))))) (wRet (wC (.bool false))) wNext) (wRet (wCl allD (wCons (wAsL (wLc [3] (wIT (wSl (wVar 0) (wO (wC (.int 1))) wNoO)) (gN 3) wYes (wAndV (wCall w_is_from (wLen 2 (pD (wVar 3) (pD (wC (.int 0)) pNil))) noEx) (w2 ltD (wVar 3) (wVar 2))))) wNil))))))))
def N_is_circuit_value : List Str := ["thing", "number", "gate"]
def b_is_circuit_value (w_is_tuple : WF) (w_is_word_of : WF) (w_is_gate : WF) : WS := (wSeq (wIfS (wOr (wNot (wTst (wCall w_is_tuple (wLen 2 (pD (wVar 0) (pD (wC (.int 2)) pNil))) noEx))) (wOr (wNot (wTst (wCall w_is_word_of (wLen 2 (pD (w2 ixD (wVar 0) (wC (.int 0))) (pD (wC (.str "ea")) pNil))) noEx))) (wOr (wNot (wTst (wIsi isTup (w2 ixD (wVar 0) (wC (.int 1)))))) (wTst (w2 eqD (w2 ixD (wVar 0) (wC (.int 1))) (wTup wNil)))))) (wRet (wC (.bool false))) wNext) (wRet (wCl allD (wCons (wAsL (wLc [1, 2] (wEnT (w2 ixD (wVar 0) (wC (.int 1)))) (gT 2 (gC (gN 1) (gC (gN 2) gNs))) wYes (wCall w_is_gate (wLen 3 (pD (wVar 2) (pD (wCl lenD (wCons (w2 ixD (wVar 0) (wC (.int 0))) wNil)) (pD (wVar 1) pNil)))) noEx))) wNil))))
def N_gate_value : List Str := ["gate", "known", "filling", "word"]
def b_gate_value : WS := (wSeq (wAsg 3 (vD (w2 ixD (wVar 0) (wC (.int 0))))) (wSeq (wIfS (wTst (w2 eqD (wVar 3) (wC (.str "yes")))) (wRet (wC (.bool true))) wNext) (wSeq (wIfS (wTst (w2 eqD (wVar 3) (wC (.str "v")))) (wRet (w2 eqD (w2 ixD (wVar 2) (w2 ixD (wVar 0) (wC (.int 1)))) (wC (.str "t")))) wNext) (wSeq (wIfS (wTst (w2 eqD (wVar 3) (wC (.str "not")))) (wRet (wNotV (w2 ixD (wVar 1) (w2 ixD (wVar 0) (wC (.int 1)))))) wNext) (wSeq (wIfS (wTst (w2 eqD (wVar 3) (wC (.str "and")))) (wRet (wAndV (w2 ixD (wVar 1) (w2 ixD (wVar 0) (wC (.int 1)))) (w2 ixD (wVar 1) (w2 ixD (wVar 0) (wC (.int 2)))))) wNext) (wRet (wOrV (w2 ixD (wVar 1) (w2 ixD (wVar 0) (wC (.int 1)))) (w2 ixD (wVar 1) (w2 ixD (wVar 0) (wC (.int 2)))))))))))
def N_values_for : List Str := ["gates", "filling", "known", "gate"]
def b_values_for (w_gate_value : WF) : WS := (wSeq (wAsg 2 (vL (wLst wNil))) (wSeq (wFor (wIT (wVar 0)) (gN 3) (wApp 2 (wBor 2 (wCall w_gate_value (wLen 3 (pD (wVar 3) (pD (wVar 2) (pD (wVar 1) pNil)))) noEx)))) (wFrz 2 (wRet (wVar 2)))))
def N_value_from : List Str := ["circuit", "filling", "prefix", "gates", "found", "letter"]
def b_value_from (w_value_from : WF) (w_values_for : WF) : WS := (wSeq (wAsgG (gT 2 (gC (gN 2) (gC (gN 3) gNs))) (wVar 0)) (wSeq (wIfS (wTst (w2 eqD (wCl lenD (wCons (wVar 1) wNil)) (wCl lenD (wCons (wVar 2) wNil)))) (wRet (w2 ixD (wCall w_values_for (wLen 2 (pD (wVar 3) (pD (wVar 1) pNil))) noEx) (wNeg (wC (.int 1))))) wNext) (wSeq (wAsg 4 (vD (wAsL (wLc [5] (wIS (wC (.str "ft"))) (gN 5) wYes (wCall w_value_from (wLen 2 (pD (wVar 0) (pD (w2 addD (wVar 1) (wVar 5)) pNil))) noEx))))) (wRet (wIf (wTst (w2 eqD (w2 ixD (wVar 2) (wCl lenD (wCons (wVar 1) wNil))) (wC (.str "e")))) (wCl anyD (wCons (wVar 4) wNil)) (wCl allD (wCons (wVar 4) wNil)))))))
def N_is_filling_value : List Str := ["thing"]
def b_is_filling_value (w_is_word_of : WF) : WS := (wRet (wCall w_is_word_of (wLen 2 (pD (wVar 0) (pD (wC (.str "ft")) pNil))) noEx))
def N_all_fillings : List Str := ["many", "found", "_", "filling", "letter"]
def b_all_fillings : WS := (wSeq (wAsg 1 (vD (wAsL (wLst (wCons (wC (.str "")) wNil))))) (wSeq (wFor (wR1 (wVar 0)) (gN 2) (wAsg 1 (vD (wAsL (wLc2 [3, 4] [4] (wIL (wVar 1)) (gN 3) wYes (wIS (wC (.str "ft"))) (gN 4) wYes (w2 addD (wVar 3) (wVar 4))))))) (wRet (wVar 1))))
def N_need_circuit : List Str := ["circuit"]
def b_need_circuit (w_is_circuit_value : WF) (C_BadCircuit : Addr) (Ex : Addr → PyData → Prop) : WS := (wIfS (wNot (wTst (wCall w_is_circuit_value (wLen 1 (pD (wVar 0) pNil)) noEx))) (wRaise C_BadCircuit (wVar 0) Ex) wNext)
def N_circuit_after : List Str := ["circuit", "filling"]
def b_circuit_after (w_need_circuit : WF) (w_value_from : WF) (w_is_filling_value : WF) (C_BadFilling : Addr) (Ex : Addr → PyData → Prop) : WS := (wSeq (wDrop (wCall w_need_circuit (wLen 1 (pD (wVar 0) pNil)) Ex)) (wSeq (wIfS (wOr (wNot (wTst (wCall w_is_filling_value (wLen 1 (pD (wVar 1) pNil)) noEx))) (wTst (w2 gtD (wCl lenD (wCons (wVar 1) wNil)) (wCl lenD (wCons (w2 ixD (wVar 0) (wC (.int 0))) wNil))))) (wRaise C_BadFilling (wVar 1) Ex) wNext) (wRet (wCall w_value_from (wLen 2 (pD (wVar 0) (pD (wVar 1) pNil))) noEx))))
def N_circuit_value : List Str := ["circuit"]
def b_circuit_value (w_need_circuit : WF) (w_value_from : WF) (Ex : Addr → PyData → Prop) : WS := (wSeq (wDrop (wCall w_need_circuit (wLen 1 (pD (wVar 0) pNil)) Ex)) (wRet (wCall w_value_from (wLen 2 (pD (wVar 0) (pD (wC (.str "")) pNil))) noEx)))
def N_many_true : List Str := ["circuit", "many", "filling"]
def b_many_true (w_need_circuit : WF) (w_all_fillings : WF) (w_values_for : WF) (Ex : Addr → PyData → Prop) : WS := (wSeq (wDrop (wCall w_need_circuit (wLen 1 (pD (wVar 0) pNil)) Ex)) (wSeq (wAsg 1 (vD (wC (.int 0)))) (wSeq (wFor (wIL (wCall w_all_fillings (wLen 1 (pD (wCl lenD (wCons (w2 ixD (wVar 0) (wC (.int 0))) wNil)) pNil)) noEx)) (gN 2) (wAug 1 (wCl intD (wCons (w2 ixD (wCall w_values_for (wLen 2 (pD (w2 ixD (wVar 0) (wC (.int 1))) (pD (wVar 2) pNil))) noEx) (wNeg (wC (.int 1)))) wNil)))) (wRet (wVar 1)))))
def N__law_draw : List Str := ["deck", "many", "number", "cell"]
def b__law_draw : WS := (wSeq (wDkP 0 (w2 addD (wDkI 0) (wC (.int 1)))) (wSeq (wAsg 2 (vD (w2 addD (wDkI 0) (w2 mulQD (wC (.int 61473)) (wDkI 0))))) (wSeq (wDkIf 0 1 2 3) (wSeq (wAsg 2 (vD (w2 modD (wCl intD (wCons (w2 addD (w2 mulQD (wVar 2) (wC (.int 39373))) (wC (.int 77))) wNil)) (wC (.int 2147483647))))) (wSeq (wAsg 2 (vD (w2 modD (wCl intD (wCons (w2 addD (w2 addD (w2 mulQD (wVar 2) (wVar 2)) (w2 mulQD (wC (.int 52713)) (wDkI 0))) (wC (.int 31))) wNil)) (wC (.int 2147483587))))) (wRet (w2 modD (wCl intD (wCons (w2 fdivD (w2 modD (wCl intD (wCons (w2 mulQD (wVar 2) (wC (.int 40692))) wNil)) (wC (.int 2147483563))) (wC (.int 64))) wNil)) (wVar 1))))))))
def N__law_pick : List Str := ["deck", "some"]
def b__law_pick (w__law_draw : WF) : WS := (wRet (w2 ixD (wVar 1) (wCall w__law_draw (wLen 2 (pK 0 (pD (wCl lenD (wCons (wVar 1) wNil)) pNil))) noEx)))
def N__law_same : List Str := ["told", "due", "todo", "one", "other"]
def b__law_same : WS := (wSeq (wAsg 2 (vL (wLst (wCons (wTup (wCons (wVar 0) (wCons (wVar 1) wNil))) wNil)))) (wSeq (wWhile (wBorT 2 (wTst (w2 neD (wVar 2) (wAsL (wLst wNil))))) (wSeq (wPop 2 (gT 2 (gC (gN 3) (gC (gN 4) gNs)))) (wIfS (wTst (wIsi (fun d => isTup d || isList d) (wVar 3))) (wSeq (wIfS (wOr (wNot (wTst (wIsi (fun d => isTup d || isList d) (wVar 4)))) (wOr (wTst (w2 neD (wIsi isTup (wVar 3)) (wIsi isTup (wVar 4)))) (wTst (w2 neD (wCl lenD (wCons (wVar 3) wNil)) (wCl lenD (wCons (wVar 4) wNil)))))) (wRet (wC (.bool false))) wNext) (wExt 2 (wAsL (wZipL (wVar 3) (wVar 4))))) (wIfS (wTst (wIsi (fun d => isInt d || isStr d) (wVar 3))) (wIfS (wOr (wNot (wTst (wIsi (fun d => isInt d || isStr d) (wVar 4)))) (wOr (wTst (w2 neD (wIsi isBool (wVar 3)) (wIsi isBool (wVar 4)))) (wTst (w2 neD (wVar 3) (wVar 4))))) (wRet (wC (.bool false))) wNext) (wIfS (wOr (wTst (w2 (isND true) (wVar 3) (wC .none))) (wTst (w2 (isND true) (wVar 4) (wC .none)))) (wRet (wC (.bool false))) wNext))))) (wRet (wC (.bool true)))))
def N__law_near_number : List Str := ["deck", "g"]
def b__law_near_number (w__law_draw : WF) : WS := (wRet (wIf (wTst (w2 eqD (wCall w__law_draw (wLen 2 (pK 0 (pD (wC (.int 2)) pNil))) noEx) (wC (.int 0)))) (wCl maxD (wCons (wC (.int 0)) (wCons (w2 subD (w2 subD (wVar 1) (wC (.int 1))) (wCall w__law_draw (wLen 2 (pK 0 (pD (wC (.int 3)) pNil))) noEx)) wNil))) (wCall w__law_draw (wLen 2 (pK 0 (pD (wVar 1) pNil))) noEx)))
def N__law_drawn_circuit : List Str := ["deck", "m", "many", "prefix", "gates", "g", "way", "k"]
def b__law_drawn_circuit (w__law_draw : WF) (w__law_pick : WF) (w__law_near_number : WF) : WS := (wSeq (wPar 3 4 (vCons (vD (wMt "str" joinD (wC (.str "")) (wCons (wAsL (wLc [7] (wR1 (wVar 1)) (gN 7) wYes (wCall w__law_pick (wLen 2 (pK 0 (pD (wAsL (wLst (wCons (wC (.str "e")) (wCons (wC (.str "a")) wNil)))) pNil))) noEx))) wNil))) (vCons (vL (wLst wNil)) vNil))) (wSeq (wFor (wR1 (w2 addD (wC (.int 1)) (wCall w__law_draw (wLen 2 (pK 0 (pD (wVar 2) pNil))) noEx))) (gN 5) (wSeq (wAsg 6 (vD (wCall w__law_draw (wLen 2 (pK 0 (pD (wC (.int 8)) pNil))) noEx))) (wIfS (wOr (wTst (w2 eqD (wVar 5) (wC (.int 0)))) (wTst (w2 ltD (wVar 6) (wC (.int 3))))) (wApp 4 (wIf (wOr (wTst (w2 eqD (wVar 1) (wC (.int 0)))) (wAnd (wTst (w2 eqD (wVar 6) (wC (.int 2)))) (wTst (w2 eqD (wCall w__law_draw (wLen 2 (pK 0 (pD (wC (.int 3)) pNil))) noEx) (wC (.int 0)))))) (wTup (wCons (wC (.str "yes")) wNil)) (wTup (wCons (wC (.str "v")) (wCons (wCall w__law_draw (wLen 2 (pK 0 (pD (wVar 1) pNil))) noEx) wNil))))) (wIfS (wTst (w2 eqD (wVar 6) (wC (.int 3)))) (wApp 4 (wTup (wCons (wC (.str "not")) (wCons (wCall w__law_near_number (wLen 2 (pK 0 (pD (wVar 5) pNil))) noEx) wNil)))) (wApp 4 (wTup (wCons (wCall w__law_pick (wLen 2 (pK 0 (pD (wAsL (wLst (wCons (wC (.str "and")) (wCons (wC (.str "or")) wNil)))) pNil))) noEx) (wCons (wCall w__law_near_number (wLen 2 (pK 0 (pD (wVar 5) pNil))) noEx) (wCons (wCall w__law_near_number (wLen 2 (pK 0 (pD (wVar 5) pNil))) noEx) wNil))))))))) (wFrz 4 (wRet (wTup (wCons (wVar 3) (wCons (wCl tupleD (wCons (wVar 4) wNil)) wNil)))))))
def N__law_values : List Str := ["gates", "filling", "found", "gate", "word", "one", "other"]
def b__law_values : WS := (wSeq (wAsg 2 (vL (wLst wNil))) (wSeq (wFor (wIT (wVar 0)) (gN 3) (wSeq (wAsg 4 (vD (w2 ixD (wVar 3) (wC (.int 0))))) (wIfS (wTst (w2 eqD (wVar 4) (wC (.str "yes")))) (wApp 2 (wC (.bool true))) (wIfS (wTst (w2 eqD (wVar 4) (wC (.str "v")))) (wApp 2 (w2 eqD (w2 ixD (wVar 1) (w2 ixD (wVar 3) (wC (.int 1)))) (wC (.str "t")))) (wIfS (wTst (w2 eqD (wVar 4) (wC (.str "not")))) (wApp 2 (wNotV (wIxO 2 (w2 ixD (wVar 3) (wC (.int 1)))))) (wSeq (wPar 5 6 (vCons (vD (wIxO 2 (w2 ixD (wVar 3) (wC (.int 1))))) (vCons (vD (wIxO 2 (w2 ixD (wVar 3) (wC (.int 2))))) vNil))) (wApp 2 (wIf (wTst (w2 eqD (wVar 4) (wC (.str "and")))) (wAndV (wVar 5) (wVar 6)) (wOrV (wVar 5) (wVar 6)))))))))) (wFrz 2 (wRet (wVar 2)))))
def N__law_fillings : List Str := ["m", "found", "k", "longer", "filling"]
def b__law_fillings : WS := (wSeq (wAsg 1 (vD (wAsL (wLst (wCons (wC (.str "")) wNil))))) (wSeq (wFor (wR1 (wVar 0)) (gN 2) (wSeq (wAsg 3 (vL (wLst wNil))) (wSeq (wFor (wIL (wAsL (wListOf (wVar 1)))) (gN 4) (wExt 3 (wAsL (wLst (wCons (w2 addD (wVar 4) (wC (.str "f"))) (wCons (w2 addD (wVar 4) (wC (.str "t"))) wNil)))))) (wFrz 3 (wAsg 1 (vD (wVar 3))))))) (wRet (wVar 1))))
def N__law_row : List Str := ["circuit", "filling"]
def b__law_row (w__law_values : WF) (w__law_fillings : WF) : WS := (wRet (wAsL (wLc [1] (wIL (wCall w__law_fillings (wLen 1 (pD (wCl lenD (wCons (w2 ixD (wVar 0) (wC (.int 0))) wNil)) pNil)) noEx)) (gN 1) wYes (w2 ixD (wCall w__law_values (wLen 2 (pD (w2 ixD (wVar 0) (wC (.int 1))) (pD (wVar 1) pNil))) noEx) (wNeg (wC (.int 1)))))))
def N__law_value : List Str := ["prefix", "row", "letter", "pairs", "one", "other"]
def b__law_value : WS := (wSeq (wFor (wIS (w1 revD (wVar 0))) (gN 2) (wSeq (wAsg 3 (vD (wAsL (wZipL (wStep 2 (wVar 1) wNoO) (wStep 2 (wVar 1) (wO (wC (.int 1)))))))) (wAsg 1 (vD (wAsL (wLc [4, 5] (wIL (wVar 3)) (gT 2 (gC (gN 4) (gC (gN 5) gNs))) wYes (wIf (wTst (w2 eqD (wVar 2) (wC (.str "e")))) (wOrV (wVar 4) (wVar 5)) (wAndV (wVar 4) (wVar 5))))))))) (wRet (w2 ixD (wVar 1) (wC (.int 0)))))
def N__law_is_whole : List Str := ["thing"]
def b__law_is_whole : WS := (wRet (wAndV (wIsi isInt (wVar 0)) (wNotV (wIsi isBool (wVar 0)))))
def N__law_is_gate : List Str := ["m", "g", "thing", "sizes", "it"]
def b__law_is_gate (w__law_is_whole : WF) : WS := (wSeq (wIfS (wOr (wNot (wTst (wIsi isTup (wVar 2)))) (wOr (wTst (w2 eqD (wVar 2) (wTup wNil))) (wNot (wTst (wIsi isStr (w2 ixD (wVar 2) (wC (.int 0)))))))) (wRet (wC (.bool false))) wNext) (wSeq (wAsg 3 (vDisp [("yes", 1), ("v", 2), ("not", 2), ("and", 3), ("or", 3)])) (wSeq (wIfS (wOr (wTst (w2 neD (wGetO 3 (w2 ixD (wVar 2) (wC (.int 0))) (wC (.int 0))) (wCl lenD (wCons (wVar 2) wNil)))) (wTst (w2 neD (wAsL (wLc [4] (wIT (wSl (wVar 2) (wO (wC (.int 1))) wNoO)) (gN 4) (wNot (wTst (wCall w__law_is_whole (wLen 1 (pD (wVar 4) pNil)) noEx))) (wC (.int 1)))) (wAsL (wLst wNil))))) (wRet (wC (.bool false))) wNext) (wRet (w2 eqD (wAsL (wLc [4] (wIT (wSl (wVar 2) (wO (wC (.int 1))) wNoO)) (gN 4) (wNot (wTst (wChain leD ltD (wC (.int 0)) (wVar 4) (wIf (wTst (w2 eqD (w2 ixD (wVar 2) (wC (.int 0))) (wC (.str "v")))) (wVar 0) (wVar 1))))) (wC (.int 1)))) (wAsL (wLst wNil)))))))
def N__law_is_circuit : List Str := ["thing", "g", "gate", "letter"]
def b__law_is_circuit (w__law_is_gate : WF) : WS := (wSeq (wIfS (wOr (wNot (wTst (wIsi isTup (wVar 0)))) (wOr (wTst (w2 neD (wCl lenD (wCons (wVar 0) wNil)) (wC (.int 2)))) (wOr (wNot (wTst (wIsi isStr (w2 ixD (wVar 0) (wC (.int 0)))))) (wNot (wTst (wIsi isTup (w2 ixD (wVar 0) (wC (.int 1))))))))) (wRet (wC (.bool false))) wNext) (wSeq (wIfS (wOr (wTst (w2 eqD (w2 ixD (wVar 0) (wC (.int 1))) (wTup wNil))) (wTst (w2 neD (wAsL (wLc [3] (wIS (w2 ixD (wVar 0) (wC (.int 0)))) (gN 3) (wTst (w2 (inSg true) (wVar 3) (wC (.str "ea")))) (wC (.int 1)))) (wAsL (wLst wNil))))) (wRet (wC (.bool false))) wNext) (wRet (w2 eqD (wAsL (wLc [1, 2] (wEnT (w2 ixD (wVar 0) (wC (.int 1)))) (gT 2 (gC (gN 1) (gC (gN 2) gNs))) (wNot (wTst (wCall w__law_is_gate (wLen 3 (pD (wCl lenD (wCons (w2 ixD (wVar 0) (wC (.int 0))) wNil)) (pD (wVar 1) (pD (wVar 2) pNil)))) noEx))) (wC (.int 1)))) (wAsL (wLst wNil))))))
def N__law_bent : List Str := ["deck", "thing", "at", "way"]
def b__law_bent (w__law_pick : WF) (w__law_draw : WF) (w__law_bent : WF) : WS := (wSeq (wIfS (wAnd (wTst (wIsi isTup (wVar 1))) (wAnd (wTst (w2 neD (wVar 1) (wTup wNil))) (wTst (w2 gtD (wCall w__law_draw (wLen 2 (pK 0 (pD (wC (.int 5)) pNil))) noEx) (wC (.int 0)))))) (wSeq (wPar 2 3 (vCons (vD (wCall w__law_draw (wLen 2 (pK 0 (pD (wCl lenD (wCons (wVar 1) wNil)) pNil))) noEx)) (vCons (vD (wCall w__law_draw (wLen 2 (pK 0 (pD (wC (.int 8)) pNil))) noEx)) vNil))) (wSeq (wIfS (wTst (w2 ltD (wVar 3) (wC (.int 5)))) (wRet (w2 addD (w2 addD (wSl (wVar 1) wNoO (wO (wVar 2))) (wTup (wCons (wCall w__law_bent (wLen 2 (pK 0 (pD (w2 ixD (wVar 1) (wVar 2)) pNil))) noEx) wNil))) (wSl (wVar 1) (wO (w2 addD (wVar 2) (wC (.int 1)))) wNoO))) wNext) (wRet (wIf (wTst (w2 eqD (wVar 3) (wC (.int 5)))) (w2 addD (wSl (wVar 1) wNoO (wO (wVar 2))) (wSl (wVar 1) (wO (w2 addD (wVar 2) (wC (.int 1)))) wNoO)) (wIf (wTst (w2 eqD (wVar 3) (wC (.int 6)))) (w2 addD (wSl (wVar 1) wNoO (wO (w2 addD (wVar 2) (wC (.int 1))))) (wSl (wVar 1) (wO (wVar 2)) wNoO)) (wAsL (wListOf (wVar 1)))))))) wNext) (wSeq (wIfS (wTst (wIsi isInt (wVar 1))) (wRet (wCall w__law_pick (wLen 2 (pK 0 (pD (wAsL (wLst (wCons (w2 addD (wVar 1) (wC (.int 1))) (wCons (w2 subD (wVar 1) (wC (.int 1))) (wCons (w2 eqD (wVar 1) (wC (.int 1))) (wCons (w2 eqD (wVar 1) (wC (.int 0))) (wCons (wNeg (wC (.int 1))) (wCons (wCl strD (wCons (wVar 1) wNil)) (wCons (wC .none) (wCons (w2 addD (wVar 1) (wC (.int 7))) wNil)))))))))) pNil))) noEx)) wNext) (wSeq (wIfS (wTst (wIsi isStr (wVar 1))) (wRet (wCall w__law_pick (wLen 2 (pK 0 (pD (wAsL (wLst (wCons (w2 addD (wVar 1) (wC (.str "e"))) (wCons (wSl (wVar 1) (wO (wC (.int 1))) wNoO) (wCons (wMt "str" upperD (wVar 1) wNil) (wCons (wC (.str "v")) (wCons (wC (.str "yes")) (wCons (wC (.str "not")) (wCons (wC (.str "and")) (wCons (wC (.str "xor")) (wCons (wC (.str "E")) (wCons (wC (.str "")) (wCons (wC .none) (wCons (w2 addD (wVar 1) (wC (.str " "))) wNil)))))))))))))) pNil))) noEx)) wNext) (wRet (wCall w__law_pick (wLen 2 (pK 0 (pD (wAsL (wLst (wCons (wC .none) (wCons (wTup wNil) (wCons (wC (.int 0)) (wCons (wAsL (wLst wNil)) (wCons (wC (.str "")) (wCons (wTup (wCons (wC (.str "yes")) wNil)) (wCons (wTup (wCons (wTup (wCons (wC (.str "yes")) wNil)) wNil)) (wCons (wC (.bool true)) (wCons (wTup (wCons (wC (.str "")) wNil)) (wCons (wTup (wCons (wC (.str "e")) (wCons (wTup wNil) wNil))) wNil)))))))))))) pNil))) noEx)))))
def N__law_no_circuit : List Str := ["deck", "circuit", "turn", "thing"]
def b__law_no_circuit (w__law_bent : WF) (w__law_is_circuit : WF) : WS := (wSeq (wFor (wR1 (wC (.int 6))) (gN 2) (wSeq (wAsg 3 (vD (wCall w__law_bent (wLen 2 (pK 0 (pD (wVar 1) pNil))) noEx))) (wIfS (wNot (wTst (wCall w__law_is_circuit (wLen 1 (pD (wVar 3) pNil)) noEx))) (wRet (wVar 3)) wNext))) (wRet (wTup (wCons (w2 ixD (wVar 1) (wC (.int 0))) (wCons (wTup wNil) wNil)))))
def N__law_no_filling : List Str := ["deck", "m", "is_beginning", "some"]
def b__law_no_filling (w__law_pick : WF) : WS := (wSeq (wAsg 3 (vD (wAsL (wLst (wCons (wC .none) (wCons (wC (.int 0)) (wCons (w2 addD (w2 mulQD (wC (.str "F")) (wVar 1)) (wC (.str "F"))) (wCons (wC (.str "x")) (wCons (w2 mulQD (wAsL (wLst (wCons (wC (.str "f")) wNil))) (wVar 1)) (wCons (w2 mulQD (wTup (wCons (wC (.str "f")) wNil)) (w2 addD (wVar 1) (wC (.int 1)))) (wCons (w2 mulQD (wC (.str "t")) (w2 addD (wVar 1) (wC (.int 1)))) (wCons (w2 addD (w2 mulQD (wC (.str "f")) (wVar 1)) (wC (.str "e"))) (wCons (wC (.bool true)) (wCons (wTup wNil) (wCons (w2 mulQD (wC (.str "ft")) (w2 addD (wVar 1) (wC (.int 1)))) wNil))))))))))))))) (wSeq (wIfS (wAnd (wTst (w2 gtD (wVar 1) (wC (.int 0)))) (wNot (wTst (wVar 2)))) (wAsg 3 (vD (w2 addD (wVar 3) (wAsL (wLst (wCons (w2 mulQD (wC (.str "f")) (w2 subD (wVar 1) (wC (.int 1)))) (wCons (wC (.str "")) wNil))))))) wNext) (wRet (wCall w__law_pick (wLen 2 (pK 0 (pD (wVar 3) pNil))) noEx))))
end K66
set_option maxRecDepth 100000
namespace K66
open PySem PySem.Spec L2 DL DR
def e_is_integer  : Env' → Option Out := (eRet (eAndV (eIsi isInt (eVar 0)) (eNotV (eIsi isBool (eVar 0)))))
theorem t_is_integer  : SndS (b_is_integer) (e_is_integer) := (sRet (sAndV (sIsi sVar) (sNotV (sIsi sVar))))
def f_is_integer : Fn := runF 1 N_is_integer (e_is_integer)
theorem r_is_integer : ∀ ss Q E, ss.length = 1 → wf f_is_integer ss Q E → b_is_integer (slots0 N_is_integer ss) (enD Q) := runF_ok (t_is_integer)
def e_is_from (f_is_integer : Fn) : Env' → Option Out := (eRet (eAndV (eCall f_is_integer (eLen 1 (epD (eVar 0) epNil))) (e2 geD (eVar 0) (eVar 1))))
theorem t_is_from (f_is_integer : Fn) : SndS (b_is_from (wf f_is_integer)) (e_is_from f_is_integer) := (sRet (sAndV (sCall (sLen (spD_ sVar spNil))) (s2 sVar sVar)))
def f_is_from : Fn := runF 2 N_is_from (e_is_from f_is_integer)
theorem r_is_from : ∀ ss Q E, ss.length = 2 → wf f_is_from ss Q E → b_is_from (wf f_is_integer) (slots0 N_is_from ss) (enD Q) := runF_ok (t_is_from f_is_integer)
def e_is_tuple  : Env' → Option Out := (eRet (eAndV (eIsi isTup (eVar 0)) (e2 eqD (eCl lenD (eCons (eVar 0) eNil)) (eVar 1))))
theorem t_is_tuple  : SndS (b_is_tuple) (e_is_tuple) := (sRet (sAndV (sIsi sVar) (s2 (sCl (sCons sVar sNil)) sVar)))
def f_is_tuple : Fn := runF 2 N_is_tuple (e_is_tuple)
theorem r_is_tuple : ∀ ss Q E, ss.length = 2 → wf f_is_tuple ss Q E → b_is_tuple (slots0 N_is_tuple ss) (enD Q) := runF_ok (t_is_tuple)
def e_is_word_of  : Env' → Option Out := (eRet (eAndV (eIsi isStr (eVar 0)) (eCl allD (eCons (eAsL (eLc [2] (eIS (eVar 0)) (gN 2) eYes (e2 (inSg false) (eVar 2) (eVar 1)))) eNil))))
theorem t_is_word_of  : SndS (b_is_word_of) (e_is_word_of) := (sRet (sAndV (sIsi sVar) (sCl (sCons (sAsL (sLc (sIS sVar) sYes (s2 sVar sVar))) sNil))))
def f_is_word_of : Fn := runF 2 N_is_word_of (e_is_word_of)
theorem r_is_word_of : ∀ ss Q E, ss.length = 2 → wf f_is_word_of ss Q E → b_is_word_of (slots0 N_is_word_of ss) (enD Q) := runF_ok (t_is_word_of)
def e_is_gate (f_is_from : Fn) : Env' → Option Out := (eSeq (eIfS (eOr (eNot (eTst (eIsi isTup (eVar 0)))) (eOr (eTst (e2 eqD (eVar 0) (eTup eNil))) (eNot (eTst (eIsi isStr (e2 ixD (eVar 0) (eC (.int 0)))))))) (eRet (eC (.bool false))) eNext) (eSeq (eIfS (eTst (e2 eqD (e2 ixD (eVar 0) (eC (.int 0))) (eC (.str "yes")))) (eRet (e2 eqD (eCl lenD (eCons (eVar 0) eNil)) (eC (.int 1)))) eNext) (eSeq (eIfS (eTst (e2 eqD (e2 ixD (eVar 0) (eC (.int 0))) (eC (.str "v")))) (eRet (eAndV (e2 eqD (eCl lenD (eCons (eVar 0) eNil)) (eC (.int 2))) (eAndV (eCall f_is_from (eLen 2 (epD (e2 ixD (eVar 0) (eC (.int 1))) (epD (eC (.int 0)) epNil)))) (e2 ltD (e2 ixD (eVar 0) (eC (.int 1))) (eVar 1))))) eNext) (eSeq (eIfS (eTst (e2 eqD (e2 ixD (eVar 0) (eC (.int 0))) (eC (.str "not")))) (eRet (eAndV (e2 eqD (eCl lenD (eCons (eVar 0) eNil)) (eC (.int 2))) (eAndV (eCall f_is_from (eLen 2 (epD (e2 ixD (eVar 0) (eC (.int 1))) (epD (eC (.int 0)) epNil)))) (e2 ltD (e2 ixD (eVar 0) (eC (.int 1))) (eVar 2))))) eNext) (eSeq (eIfS (eOr (eTst (e2 (inTx true) (e2 ixD (eVar 0) (eC (.int 0))) (eC g_JOINING))) (eTst (e2 neD (eCl lenD (eCons (eVar 0) eNil)) (eC (.int 3))))) (eRet (eC (.bool false))) eNext) (eRet (eCl allD (eCons (eAsL (eLc [3] (eIT (eSl (eVar 0) (eO (eC (.int 1))) eNoO)) (gN 3) eYes (eAndV (eCall f_is_from (eLen 2 (epD (eVar 3) (epD (eC (.int 0)) epNil)))) (e2 ltD (eVar 3) (eVar 2))))) eNil))))))))
theorem t_is_gate (f_is_from : Fn) : SndS (b_is_gate (wf f_is_from)) (e_is_gate f_is_from) := (sSeq (sIfS (sOr (sNot (sTst (sIsi sVar))) (sOr (sTst (s2 sVar (sTup sNil))) (sNot (sTst (sIsi (s2 sVar sC)))))) (sRet sC) sNext) (sSeq (sIfS (sTst (s2 (s2 sVar sC) sC)) (sRet (s2 (sCl (sCons sVar sNil)) sC)) sNext) (sSeq (sIfS (sTst (s2 (s2 sVar sC) sC)) (sRet (sAndV (s2 (sCl (sCons sVar sNil)) sC) (sAndV (sCall (sLen (spD_ (s2 sVar sC) (spD_ sC spNil)))) (s2 (s2 sVar sC) sVar)))) sNext) (sSeq (sIfS (sTst (s2 (s2 sVar sC) sC)) (sRet (sAndV (s2 (sCl (sCons sVar sNil)) sC) (sAndV (sCall (sLen (spD_ (s2 sVar sC) (spD_ sC spNil)))) (s2 (s2 sVar sC) sVar)))) sNext) (sSeq (sIfS (sOr (sTst (s2 (s2 sVar sC) sC)) (sTst (s2 (sCl (sCons sVar sNil)) sC))) (sRet sC) sNext) (sRet (sCl (sCons (sAsL (sLc (sIT (sSl sVar (sO sC) sNoO)) sYes (sAndV (sCall (sLen (spD_ sVar (spD_ sC spNil)))) (s2 sVar sVar)))) sNil))))))))
def f_is_gate : Fn := runF 3 N_is_gate (e_is_gate f_is_from)
theorem r_is_gate : ∀ ss Q E, ss.length = 3 → wf f_is_gate ss Q E → b_is_gate (wf f_is_from) (slots0 N_is_gate ss) (enD Q) := runF_ok (t_is_gate f_is_from)
def e_is_circuit_value (f_is_tuple : Fn) (f_is_word_of : Fn) (f_is_gate : Fn) : Env' → Option Out := (eSeq (eIfS (eOr (eNot (eTst (eCall f_is_tuple (eLen 2 (epD (eVar 0) (epD (eC (.int 2)) epNil)))))) (eOr (eNot (eTst (eCall f_is_word_of (eLen 2 (epD (e2 ixD (eVar 0) (eC (.int 0))) (epD (eC (.str "ea")) epNil)))))) (eOr (eNot (eTst (eIsi isTup (e2 ixD (eVar 0) (eC (.int 1)))))) (eTst (e2 eqD (e2 ixD (eVar 0) (eC (.int 1))) (eTup eNil)))))) (eRet (eC (.bool false))) eNext) (eRet (eCl allD (eCons (eAsL (eLc [1, 2] (eEnT (e2 ixD (eVar 0) (eC (.int 1)))) (gT 2 (gC (gN 1) (gC (gN 2) gNs))) eYes (eCall f_is_gate (eLen 3 (epD (eVar 2) (epD (eCl lenD (eCons (e2 ixD (eVar 0) (eC (.int 0))) eNil)) (epD (eVar 1) epNil))))))) eNil))))
theorem t_is_circuit_value (f_is_tuple : Fn) (f_is_word_of : Fn) (f_is_gate : Fn) : SndS (b_is_circuit_value (wf f_is_tuple) (wf f_is_word_of) (wf f_is_gate)) (e_is_circuit_value f_is_tuple f_is_word_of f_is_gate) := (sSeq (sIfS (sOr (sNot (sTst (sCall (sLen (spD_ sVar (spD_ sC spNil)))))) (sOr (sNot (sTst (sCall (sLen (spD_ (s2 sVar sC) (spD_ sC spNil)))))) (sOr (sNot (sTst (sIsi (s2 sVar sC)))) (sTst (s2 (s2 sVar sC) (sTup sNil)))))) (sRet sC) sNext) (sRet (sCl (sCons (sAsL (sLc (sEnT (s2 sVar sC)) sYes (sCall (sLen (spD_ sVar (spD_ (sCl (sCons (s2 sVar sC) sNil)) (spD_ sVar spNil))))))) sNil))))
def f_is_circuit_value : Fn := runF 1 N_is_circuit_value (e_is_circuit_value f_is_tuple f_is_word_of f_is_gate)
theorem r_is_circuit_value : ∀ ss Q E, ss.length = 1 → wf f_is_circuit_value ss Q E → b_is_circuit_value (wf f_is_tuple) (wf f_is_word_of) (wf f_is_gate) (slots0 N_is_circuit_value ss) (enD Q) := runF_ok (t_is_circuit_value f_is_tuple f_is_word_of f_is_gate)
def e_gate_value  : Env' → Option Out := (eSeq (eAsg 3 (evD (e2 ixD (eVar 0) (eC (.int 0))))) (eSeq (eIfS (eTst (e2 eqD (eVar 3) (eC (.str "yes")))) (eRet (eC (.bool true))) eNext) (eSeq (eIfS (eTst (e2 eqD (eVar 3) (eC (.str "v")))) (eRet (e2 eqD (e2 ixD (eVar 2) (e2 ixD (eVar 0) (eC (.int 1)))) (eC (.str "t")))) eNext) (eSeq (eIfS (eTst (e2 eqD (eVar 3) (eC (.str "not")))) (eRet (eNotV (e2 ixD (eVar 1) (e2 ixD (eVar 0) (eC (.int 1)))))) eNext) (eSeq (eIfS (eTst (e2 eqD (eVar 3) (eC (.str "and")))) (eRet (eAndV (e2 ixD (eVar 1) (e2 ixD (eVar 0) (eC (.int 1)))) (e2 ixD (eVar 1) (e2 ixD (eVar 0) (eC (.int 2)))))) eNext) (eRet (eOrV (e2 ixD (eVar 1) (e2 ixD (eVar 0) (eC (.int 1)))) (e2 ixD (eVar 1) (e2 ixD (eVar 0) (eC (.int 2)))))))))))
theorem t_gate_value  : SndS (b_gate_value) (e_gate_value) := (sSeq (sAsg (svD (s2 sVar sC))) (sSeq (sIfS (sTst (s2 sVar sC)) (sRet sC) sNext) (sSeq (sIfS (sTst (s2 sVar sC)) (sRet (s2 (s2 sVar (s2 sVar sC)) sC)) sNext) (sSeq (sIfS (sTst (s2 sVar sC)) (sRet (sNotV (s2 sVar (s2 sVar sC)))) sNext) (sSeq (sIfS (sTst (s2 sVar sC)) (sRet (sAndV (s2 sVar (s2 sVar sC)) (s2 sVar (s2 sVar sC)))) sNext) (sRet (sOrV (s2 sVar (s2 sVar sC)) (s2 sVar (s2 sVar sC)))))))))
def f_gate_value : Fn := runF 3 N_gate_value (e_gate_value)
theorem r_gate_value : ∀ ss Q E, ss.length = 3 → wf f_gate_value ss Q E → b_gate_value (slots0 N_gate_value ss) (enD Q) := runF_ok (t_gate_value)
def e_values_for (f_gate_value : Fn) : Env' → Option Out := (eSeq (eAsg 2 (evL (eLst eNil))) (eSeq (eFor (eIT (eVar 0)) (gN 3) (eApp 2 (eBor 2 (eCall f_gate_value (eLen 3 (epD (eVar 3) (epD (eVar 2) (epD (eVar 1) epNil)))))))) (eFrz 2 (eRet (eVar 2)))))
theorem t_values_for (f_gate_value : Fn) : SndS (b_values_for (wf f_gate_value)) (e_values_for f_gate_value) := (sSeq (sAsg (svL (sLst sNil))) (sSeq (sFor (sIT sVar) (sApp (sBor (sCall (sLen (spD_ sVar (spD_ sVar (spD_ sVar spNil)))))))) (sFrz (sRet sVar))))
def f_values_for : Fn := runF 2 N_values_for (e_values_for f_gate_value)
theorem r_values_for : ∀ ss Q E, ss.length = 2 → wf f_values_for ss Q E → b_values_for (wf f_gate_value) (slots0 N_values_for ss) (enD Q) := runF_ok (t_values_for f_gate_value)
def e_value_from (f_value_from : Fn) (f_values_for : Fn) : Env' → Option Out := (eSeq (eAsgG (gT 2 (gC (gN 2) (gC (gN 3) gNs))) (eVar 0)) (eSeq (eIfS (eTst (e2 eqD (eCl lenD (eCons (eVar 1) eNil)) (eCl lenD (eCons (eVar 2) eNil)))) (eRet (e2 ixD (eCall f_values_for (eLen 2 (epD (eVar 3) (epD (eVar 1) epNil)))) (eNeg (eC (.int 1))))) eNext) (eSeq (eAsg 4 (evD (eAsL (eLc [5] (eIS (eC (.str "ft"))) (gN 5) eYes (eCall f_value_from (eLen 2 (epD (eVar 0) (epD (e2 addD (eVar 1) (eVar 5)) epNil)))))))) (eRet (eIf (eTst (e2 eqD (e2 ixD (eVar 2) (eCl lenD (eCons (eVar 1) eNil))) (eC (.str "e")))) (eCl anyD (eCons (eVar 4) eNil)) (eCl allD (eCons (eVar 4) eNil)))))))
theorem t_value_from (f_value_from : Fn) (f_values_for : Fn) : SndS (b_value_from (wf f_value_from) (wf f_values_for)) (e_value_from f_value_from f_values_for) := (sSeq (sAsgG sVar) (sSeq (sIfS (sTst (s2 (sCl (sCons sVar sNil)) (sCl (sCons sVar sNil)))) (sRet (s2 (sCall (sLen (spD_ sVar (spD_ sVar spNil)))) (sNeg sC))) sNext) (sSeq (sAsg (svD (sAsL (sLc (sIS sC) sYes (sCall (sLen (spD_ sVar (spD_ (s2 sVar sVar) spNil)))))))) (sRet (sIf (sTst (s2 (s2 sVar (sCl (sCons sVar sNil))) sC)) (sCl (sCons sVar sNil)) (sCl (sCons sVar sNil)))))))
def f_value_from : Nat → Fn
  | 0 => fun _ => none
  | n + 1 => runF 2 N_value_from (e_value_from (f_value_from n) f_values_for)
theorem r_value_from (n : Nat) : ∀ ss Q E, ss.length = 2 → wf (f_value_from (n + 1)) ss Q E → b_value_from (wf (f_value_from n)) (wf f_values_for) (slots0 N_value_from ss) (enD Q) := runF_ok (t_value_from (f_value_from n) f_values_for)
def e_is_filling_value (f_is_word_of : Fn) : Env' → Option Out := (eRet (eCall f_is_word_of (eLen 2 (epD (eVar 0) (epD (eC (.str "ft")) epNil)))))
theorem t_is_filling_value (f_is_word_of : Fn) : SndS (b_is_filling_value (wf f_is_word_of)) (e_is_filling_value f_is_word_of) := (sRet (sCall (sLen (spD_ sVar (spD_ sC spNil)))))
def f_is_filling_value : Fn := runF 1 N_is_filling_value (e_is_filling_value f_is_word_of)
theorem r_is_filling_value : ∀ ss Q E, ss.length = 1 → wf f_is_filling_value ss Q E → b_is_filling_value (wf f_is_word_of) (slots0 N_is_filling_value ss) (enD Q) := runF_ok (t_is_filling_value f_is_word_of)
def e_all_fillings  : Env' → Option Out := (eSeq (eAsg 1 (evD (eAsL (eLst (eCons (eC (.str "")) eNil))))) (eSeq (eFor (eR1 (eVar 0)) (gN 2) (eAsg 1 (evD (eAsL (eLc2 [3, 4] [4] (eIL (eVar 1)) (gN 3) eYes (eIS (eC (.str "ft"))) (gN 4) eYes (e2 addD (eVar 3) (eVar 4))))))) (eRet (eVar 1))))
theorem t_all_fillings  : SndS (b_all_fillings) (e_all_fillings) := (sSeq (sAsg (svD (sAsL (sLst (sCons sC sNil))))) (sSeq (sFor (sR1 sVar) (sAsg (svD (sAsL (sLc2 (sIL sVar) sYes (sIS sC) sYes (s2 sVar sVar)))))) (sRet sVar)))
def f_all_fillings : Fn := runF 1 N_all_fillings (e_all_fillings)
theorem r_all_fillings : ∀ ss Q E, ss.length = 1 → wf f_all_fillings ss Q E → b_all_fillings (slots0 N_all_fillings ss) (enD Q) := runF_ok (t_all_fillings)
def e__law_same  : Env' → Option Out := (eSeq (eAsg 2 (evL (eLst (eCons (eTup (eCons (eVar 0) (eCons (eVar 1) eNil))) eNil)))) (eSeq (eWhile (eBorT 2 (eTst (e2 neD (eVar 2) (eAsL (eLst eNil))))) (eSeq (ePop 2 (gT 2 (gC (gN 3) (gC (gN 4) gNs)))) (eIfS (eTst (eIsi (fun d => isTup d || isList d) (eVar 3))) (eSeq (eIfS (eOr (eNot (eTst (eIsi (fun d => isTup d || isList d) (eVar 4)))) (eOr (eTst (e2 neD (eIsi isTup (eVar 3)) (eIsi isTup (eVar 4)))) (eTst (e2 neD (eCl lenD (eCons (eVar 3) eNil)) (eCl lenD (eCons (eVar 4) eNil)))))) (eRet (eC (.bool false))) eNext) (eExt 2 (eAsL (eZipL (eVar 3) (eVar 4))))) (eIfS (eTst (eIsi (fun d => isInt d || isStr d) (eVar 3))) (eIfS (eOr (eNot (eTst (eIsi (fun d => isInt d || isStr d) (eVar 4)))) (eOr (eTst (e2 neD (eIsi isBool (eVar 3)) (eIsi isBool (eVar 4)))) (eTst (e2 neD (eVar 3) (eVar 4))))) (eRet (eC (.bool false))) eNext) (eIfS (eOr (eTst (e2 (isND true) (eVar 3) (eC .none))) (eTst (e2 (isND true) (eVar 4) (eC .none)))) (eRet (eC (.bool false))) eNext))))) (eRet (eC (.bool true)))))
theorem t__law_same  : SndS (b__law_same) (e__law_same) := (sSeq (sAsg (svL (sLst (sCons (sTup (sCons sVar (sCons sVar sNil))) sNil)))) (sSeq (sWhile (sBorT (sTst (s2 sVar (sAsL (sLst sNil))))) (sSeq sPop (sIfS (sTst (sIsi sVar)) (sSeq (sIfS (sOr (sNot (sTst (sIsi sVar))) (sOr (sTst (s2 (sIsi sVar) (sIsi sVar))) (sTst (s2 (sCl (sCons sVar sNil)) (sCl (sCons sVar sNil)))))) (sRet sC) sNext) (sExt (sAsL (sZipL sVar sVar)))) (sIfS (sTst (sIsi sVar)) (sIfS (sOr (sNot (sTst (sIsi sVar))) (sOr (sTst (s2 (sIsi sVar) (sIsi sVar))) (sTst (s2 sVar sVar)))) (sRet sC) sNext) (sIfS (sOr (sTst (s2 sVar sC)) (sTst (s2 sVar sC))) (sRet sC) sNext))))) (sRet sC)))
def f__law_same : Fn := runF 2 N__law_same (e__law_same)
theorem r__law_same : ∀ ss Q E, ss.length = 2 → wf f__law_same ss Q E → b__law_same (slots0 N__law_same ss) (enD Q) := runF_ok (t__law_same)
def e__law_values  : Env' → Option Out := (eSeq (eAsg 2 (evL (eLst eNil))) (eSeq (eFor (eIT (eVar 0)) (gN 3) (eSeq (eAsg 4 (evD (e2 ixD (eVar 3) (eC (.int 0))))) (eIfS (eTst (e2 eqD (eVar 4) (eC (.str "yes")))) (eApp 2 (eC (.bool true))) (eIfS (eTst (e2 eqD (eVar 4) (eC (.str "v")))) (eApp 2 (e2 eqD (e2 ixD (eVar 1) (e2 ixD (eVar 3) (eC (.int 1)))) (eC (.str "t")))) (eIfS (eTst (e2 eqD (eVar 4) (eC (.str "not")))) (eApp 2 (eNotV (eIxO 2 (e2 ixD (eVar 3) (eC (.int 1)))))) (eSeq (ePar 5 6 (evCons (evD (eIxO 2 (e2 ixD (eVar 3) (eC (.int 1))))) (evCons (evD (eIxO 2 (e2 ixD (eVar 3) (eC (.int 2))))) evNil))) (eApp 2 (eIf (eTst (e2 eqD (eVar 4) (eC (.str "and")))) (eAndV (eVar 5) (eVar 6)) (eOrV (eVar 5) (eVar 6)))))))))) (eFrz 2 (eRet (eVar 2)))))
theorem t__law_values  : SndS (b__law_values) (e__law_values) := (sSeq (sAsg (svL (sLst sNil))) (sSeq (sFor (sIT sVar) (sSeq (sAsg (svD (s2 sVar sC))) (sIfS (sTst (s2 sVar sC)) (sApp sC) (sIfS (sTst (s2 sVar sC)) (sApp (s2 (s2 sVar (s2 sVar sC)) sC)) (sIfS (sTst (s2 sVar sC)) (sApp (sNotV (sIxO (s2 sVar sC)))) (sSeq (sPar (svCons (svD (sIxO (s2 sVar sC))) (svCons (svD (sIxO (s2 sVar sC))) svNil))) (sApp (sIf (sTst (s2 sVar sC)) (sAndV sVar sVar) (sOrV sVar sVar))))))))) (sFrz (sRet sVar))))
def f__law_values : Fn := runF 2 N__law_values (e__law_values)
theorem r__law_values : ∀ ss Q E, ss.length = 2 → wf f__law_values ss Q E → b__law_values (slots0 N__law_values ss) (enD Q) := runF_ok (t__law_values)
def e__law_fillings  : Env' → Option Out := (eSeq (eAsg 1 (evD (eAsL (eLst (eCons (eC (.str "")) eNil))))) (eSeq (eFor (eR1 (eVar 0)) (gN 2) (eSeq (eAsg 3 (evL (eLst eNil))) (eSeq (eFor (eIL (eAsL (eListOf (eVar 1)))) (gN 4) (eExt 3 (eAsL (eLst (eCons (e2 addD (eVar 4) (eC (.str "f"))) (eCons (e2 addD (eVar 4) (eC (.str "t"))) eNil)))))) (eFrz 3 (eAsg 1 (evD (eVar 3))))))) (eRet (eVar 1))))
theorem t__law_fillings  : SndS (b__law_fillings) (e__law_fillings) := (sSeq (sAsg (svD (sAsL (sLst (sCons sC sNil))))) (sSeq (sFor (sR1 sVar) (sSeq (sAsg (svL (sLst sNil))) (sSeq (sFor (sIL (sAsL (sListOf sVar))) (sExt (sAsL (sLst (sCons (s2 sVar sC) (sCons (s2 sVar sC) sNil)))))) (sFrz (sAsg (svD sVar)))))) (sRet sVar)))
def f__law_fillings : Fn := runF 1 N__law_fillings (e__law_fillings)
theorem r__law_fillings : ∀ ss Q E, ss.length = 1 → wf f__law_fillings ss Q E → b__law_fillings (slots0 N__law_fillings ss) (enD Q) := runF_ok (t__law_fillings)
def e__law_row (f__law_values : Fn) (f__law_fillings : Fn) : Env' → Option Out := (eRet (eAsL (eLc [1] (eIL (eCall f__law_fillings (eLen 1 (epD (eCl lenD (eCons (e2 ixD (eVar 0) (eC (.int 0))) eNil)) epNil)))) (gN 1) eYes (e2 ixD (eCall f__law_values (eLen 2 (epD (e2 ixD (eVar 0) (eC (.int 1))) (epD (eVar 1) epNil)))) (eNeg (eC (.int 1)))))))
theorem t__law_row (f__law_values : Fn) (f__law_fillings : Fn) : SndS (b__law_row (wf f__law_values) (wf f__law_fillings)) (e__law_row f__law_values f__law_fillings) := (sRet (sAsL (sLc (sIL (sCall (sLen (spD_ (sCl (sCons (s2 sVar sC) sNil)) spNil)))) sYes (s2 (sCall (sLen (spD_ (s2 sVar sC) (spD_ sVar spNil)))) (sNeg sC)))))
def f__law_row : Fn := runF 1 N__law_row (e__law_row f__law_values f__law_fillings)
theorem r__law_row : ∀ ss Q E, ss.length = 1 → wf f__law_row ss Q E → b__law_row (wf f__law_values) (wf f__law_fillings) (slots0 N__law_row ss) (enD Q) := runF_ok (t__law_row f__law_values f__law_fillings)
def e__law_value  : Env' → Option Out := (eSeq (eFor (eIS (e1 revD (eVar 0))) (gN 2) (eSeq (eAsg 3 (evD (eAsL (eZipL (eStep 2 (eVar 1) eNoO) (eStep 2 (eVar 1) (eO (eC (.int 1)))))))) (eAsg 1 (evD (eAsL (eLc [4, 5] (eIL (eVar 3)) (gT 2 (gC (gN 4) (gC (gN 5) gNs))) eYes (eIf (eTst (e2 eqD (eVar 2) (eC (.str "e")))) (eOrV (eVar 4) (eVar 5)) (eAndV (eVar 4) (eVar 5))))))))) (eRet (e2 ixD (eVar 1) (eC (.int 0)))))
theorem t__law_value  : SndS (b__law_value) (e__law_value) := (sSeq (sFor (sIS (s1 sVar)) (sSeq (sAsg (svD (sAsL (sZipL (sStep sVar sNoO) (sStep sVar (sO sC)))))) (sAsg (svD (sAsL (sLc (sIL sVar) sYes (sIf (sTst (s2 sVar sC)) (sOrV sVar sVar) (sAndV sVar sVar)))))))) (sRet (s2 sVar sC)))
def f__law_value : Fn := runF 2 N__law_value (e__law_value)
theorem r__law_value : ∀ ss Q E, ss.length = 2 → wf f__law_value ss Q E → b__law_value (slots0 N__law_value ss) (enD Q) := runF_ok (t__law_value)
def e__law_is_whole  : Env' → Option Out := (eRet (eAndV (eIsi isInt (eVar 0)) (eNotV (eIsi isBool (eVar 0)))))
theorem t__law_is_whole  : SndS (b__law_is_whole) (e__law_is_whole) := (sRet (sAndV (sIsi sVar) (sNotV (sIsi sVar))))
def f__law_is_whole : Fn := runF 1 N__law_is_whole (e__law_is_whole)
theorem r__law_is_whole : ∀ ss Q E, ss.length = 1 → wf f__law_is_whole ss Q E → b__law_is_whole (slots0 N__law_is_whole ss) (enD Q) := runF_ok (t__law_is_whole)
def e__law_is_gate (f__law_is_whole : Fn) : Env' → Option Out := (eSeq (eIfS (eOr (eNot (eTst (eIsi isTup (eVar 2)))) (eOr (eTst (e2 eqD (eVar 2) (eTup eNil))) (eNot (eTst (eIsi isStr (e2 ixD (eVar 2) (eC (.int 0)))))))) (eRet (eC (.bool false))) eNext) (eSeq (eAsg 3 (evDisp [("yes" , 1) , ("v" , 2) , ("not" , 2) , ("and" , 3) , ("or" , 3)])) (eSeq (eIfS (eOr (eTst (e2 neD (eGetO 3 (e2 ixD (eVar 2) (eC (.int 0))) (eC (.int 0))) (eCl lenD (eCons (eVar 2) eNil)))) (eTst (e2 neD (eAsL (eLc [4] (eIT (eSl (eVar 2) (eO (eC (.int 1))) eNoO)) (gN 4) (eNot (eTst (eCall f__law_is_whole (eLen 1 (epD (eVar 4) epNil))))) (eC (.int 1)))) (eAsL (eLst eNil))))) (eRet (eC (.bool false))) eNext) (eRet (e2 eqD (eAsL (eLc [4] (eIT (eSl (eVar 2) (eO (eC (.int 1))) eNoO)) (gN 4) (eNot (eTst (eChain leD ltD (eC (.int 0)) (eVar 4) (eIf (eTst (e2 eqD (e2 ixD (eVar 2) (eC (.int 0))) (eC (.str "v")))) (eVar 0) (eVar 1))))) (eC (.int 1)))) (eAsL (eLst eNil)))))))
theorem t__law_is_gate (f__law_is_whole : Fn) : SndS (b__law_is_gate (wf f__law_is_whole)) (e__law_is_gate f__law_is_whole) := (sSeq (sIfS (sOr (sNot (sTst (sIsi sVar))) (sOr (sTst (s2 sVar (sTup sNil))) (sNot (sTst (sIsi (s2 sVar sC)))))) (sRet sC) sNext) (sSeq (sAsg svDisp) (sSeq (sIfS (sOr (sTst (s2 (sGetO (s2 sVar sC) sC) (sCl (sCons sVar sNil)))) (sTst (s2 (sAsL (sLc (sIT (sSl sVar (sO sC) sNoO)) (sNot (sTst (sCall (sLen (spD_ sVar spNil))))) sC)) (sAsL (sLst sNil))))) (sRet sC) sNext) (sRet (s2 (sAsL (sLc (sIT (sSl sVar (sO sC) sNoO)) (sNot (sTst (sChain sC sVar (sIf (sTst (s2 (s2 sVar sC) sC)) sVar sVar)))) sC)) (sAsL (sLst sNil)))))))
def f__law_is_gate : Fn := runF 3 N__law_is_gate (e__law_is_gate f__law_is_whole)
theorem r__law_is_gate : ∀ ss Q E, ss.length = 3 → wf f__law_is_gate ss Q E → b__law_is_gate (wf f__law_is_whole) (slots0 N__law_is_gate ss) (enD Q) := runF_ok (t__law_is_gate f__law_is_whole)
def e__law_is_circuit (f__law_is_gate : Fn) : Env' → Option Out := (eSeq (eIfS (eOr (eNot (eTst (eIsi isTup (eVar 0)))) (eOr (eTst (e2 neD (eCl lenD (eCons (eVar 0) eNil)) (eC (.int 2)))) (eOr (eNot (eTst (eIsi isStr (e2 ixD (eVar 0) (eC (.int 0)))))) (eNot (eTst (eIsi isTup (e2 ixD (eVar 0) (eC (.int 1))))))))) (eRet (eC (.bool false))) eNext) (eSeq (eIfS (eOr (eTst (e2 eqD (e2 ixD (eVar 0) (eC (.int 1))) (eTup eNil))) (eTst (e2 neD (eAsL (eLc [3] (eIS (e2 ixD (eVar 0) (eC (.int 0)))) (gN 3) (eTst (e2 (inSg true) (eVar 3) (eC (.str "ea")))) (eC (.int 1)))) (eAsL (eLst eNil))))) (eRet (eC (.bool false))) eNext) (eRet (e2 eqD (eAsL (eLc [1, 2] (eEnT (e2 ixD (eVar 0) (eC (.int 1)))) (gT 2 (gC (gN 1) (gC (gN 2) gNs))) (eNot (eTst (eCall f__law_is_gate (eLen 3 (epD (eCl lenD (eCons (e2 ixD (eVar 0) (eC (.int 0))) eNil)) (epD (eVar 1) (epD (eVar 2) epNil))))))) (eC (.int 1)))) (eAsL (eLst eNil))))))
theorem t__law_is_circuit (f__law_is_gate : Fn) : SndS (b__law_is_circuit (wf f__law_is_gate)) (e__law_is_circuit f__law_is_gate) := (sSeq (sIfS (sOr (sNot (sTst (sIsi sVar))) (sOr (sTst (s2 (sCl (sCons sVar sNil)) sC)) (sOr (sNot (sTst (sIsi (s2 sVar sC)))) (sNot (sTst (sIsi (s2 sVar sC))))))) (sRet sC) sNext) (sSeq (sIfS (sOr (sTst (s2 (s2 sVar sC) (sTup sNil))) (sTst (s2 (sAsL (sLc (sIS (s2 sVar sC)) (sTst (s2 sVar sC)) sC)) (sAsL (sLst sNil))))) (sRet sC) sNext) (sRet (s2 (sAsL (sLc (sEnT (s2 sVar sC)) (sNot (sTst (sCall (sLen (spD_ (sCl (sCons (s2 sVar sC) sNil)) (spD_ sVar (spD_ sVar spNil))))))) sC)) (sAsL (sLst sNil))))))
def f__law_is_circuit : Fn := runF 1 N__law_is_circuit (e__law_is_circuit f__law_is_gate)
theorem r__law_is_circuit : ∀ ss Q E, ss.length = 1 → wf f__law_is_circuit ss Q E → b__law_is_circuit (wf f__law_is_gate) (slots0 N__law_is_circuit ss) (enD Q) := runF_ok (t__law_is_circuit f__law_is_gate)
end K66
set_option maxRecDepth 100000
set_option maxHeartbeats 4000000
namespace K66
open PySem PySem.Spec L2 DL DR
/-! ### small data -/
mutual
def sm : PyData → Bool
  | .none => true
  | .bool _ => true
  | .int _ => true
  | .str x => PyData.strOk x && decide (x.length ≤ 65536)
  | .list xs => decide (xs.length ≤ 65536) && sms xs
  | .tuple xs => decide (xs.length ≤ 65536) && sms xs
  | .dict _ => false
def sms : List PyData → Bool
  | [] => true
  | x :: xs => sm x && sms xs
end
mutual
theorem sm_lay : ∀ d : PyData, sm d = true → d.canLay0 = true
  | .none, _ => rfl
  | .bool _, _ => rfl
  | .int _, _ => rfl
  | .str x, h => by
    simp only [sm, Bool.and_eq_true] at h
    simpa [PyData.canLay0] using h.1
  | .list xs, h => by
    simp only [sm, Bool.and_eq_true] at h
    simpa [PyData.canLay0] using sms_lay xs h.2
  | .tuple xs, h => by
    simp only [sm, Bool.and_eq_true] at h
    simpa [PyData.canLay0] using sms_lay xs h.2
  | .dict _, h => by simp [sm] at h
theorem sms_lay : ∀ ds : List PyData, sms ds = true → PyData.canLayAll0 ds = true
  | [], _ => rfl
  | x :: xs, h => by
    simp only [sms, Bool.and_eq_true] at h
    simp [PyData.canLayAll0, sm_lay x h.1, sms_lay xs h.2]
end
theorem sms_mem : ∀ {ds : List PyData} {d : PyData}, sms ds = true → d ∈ ds → sm d = true
  | x :: xs, d, h, m => by
    simp only [sms, Bool.and_eq_true] at h
    rcases List.mem_cons.mp m with e | m
    · rw [e]; exact h.1
    · exact sms_mem h.2 m
theorem line_big : (65536 : Nat) ≤ sizeLine := by decide
/-- == with a flat datum -/
theorem eq_flat {d e : PyData} (h : d.canLay0 = true) (h' : e.canLay0 = true) (hd : e.depth ≤ 64) : eqD d e = some (.bool (PyData.eqv d e)) := by
  have : min d.depth e.depth ≤ 64 := Nat.le_trans (Nat.min_le_right _ _) hd
  simp [eqD, cmpOk, h, h', this]
theorem ne_flat {d e : PyData} (h : d.canLay0 = true) (h' : e.canLay0 = true) (hd : e.depth ≤ 64) : neD d e = some (.bool (!PyData.eqv d e)) := by
  have : min d.depth e.depth ≤ 64 := Nat.le_trans (Nat.min_le_right _ _) hd
  simp [neD, cmpOk, h, h', this]
theorem bls_map {α : Type} (p : α → Bool) (xs : List α) : blsOf (xs.map fun d => .bool (p d)) = some (xs.map p) := by
  induction xs with
  | nil => rfl
  | cons x xs ih => simp [blsOf, ih]
theorem eqs {a b : Str} (ha : PyData.strOk a = true) (hb : PyData.strOk b = true) : eqD (.str a) (.str b) = some (.bool (a == b)) := by
  rw [eq_flat (by simpa [PyData.canLay0] using ha) (by simpa [PyData.canLay0] using hb) (by simp [PyData.depth])]; rfl
theorem nes {a b : Str} (ha : PyData.strOk a = true) (hb : PyData.strOk b = true) : neD (.str a) (.str b) = some (.bool (!(a == b))) := by
  rw [ne_flat (by simpa [PyData.canLay0] using ha) (by simpa [PyData.canLay0] using hb) (by simp [PyData.depth])]; rfl
theorem eqi {i j : Int} : eqD (.int i) (.int j) = some (.bool (i == j)) := by
  rw [eq_flat rfl rfl (by simp [PyData.depth])]; rfl
theorem nei {i j : Int} : neD (.int i) (.int j) = some (.bool (!(i == j))) := by
  rw [ne_flat rfl rfl (by simp [PyData.depth])]; rfl
theorem eqb {i j : Bool} : eqD (.bool i) (.bool j) = some (.bool (i == j)) := by
  rw [eq_flat rfl rfl (by simp [PyData.depth])]; cases i <;> cases j <;> rfl
theorem neb {i j : Bool} : neD (.bool i) (.bool j) = some (.bool (!(i == j))) := by
  rw [ne_flat rfl rfl (by simp [PyData.depth])]; cases i <;> cases j <;> rfl
theorem eqt {d : PyData} (h : d.canLay0 = true) : eqD d (.tuple []) = some (.bool (PyData.eqv d (.tuple []))) := eq_flat h rfl (by decide)
theorem net {d : PyData} (h : d.canLay0 = true) : neD d (.tuple []) = some (.bool (!PyData.eqv d (.tuple []))) := ne_flat h rfl (by decide)
theorem nel {d : PyData} (h : d.canLay0 = true) : neD d (.list []) = some (.bool (!PyData.eqv d (.list []))) := ne_flat h rfl (by decide)
theorem eql {d : PyData} (h : d.canLay0 = true) : eqD d (.list []) = some (.bool (PyData.eqv d (.list []))) := eq_flat h rfl (by decide)
theorem ixN_nat {n k : Nat} (h : k < n) : ixN n (k : Int) = some k := by
  unfold ixN
  rw [if_pos (by omega), if_pos (by omega)]; rfl
theorem atI_nat {α : Type} {xs : List α} {k : Nat} (h : k < xs.length) : atI xs (k : Int) = xs[k]? := by
  unfold atI; rw [ixN_nat h]; rfl
theorem at0 {α : Type} {x : α} {xs : List α} : atI (x :: xs) 0 = some x := atI_nat (k := 0) (by simp)
theorem at1 {α : Type} {x y : α} {xs : List α} : atI (x :: y :: xs) 1 = some y := atI_nat (k := 1) (by simp)
theorem at2 {α : Type} {x y z : α} {xs : List α} : atI (x :: y :: z :: xs) 2 = some z := atI_nat (k := 2) (by simp)
theorem at_last {α : Type} {xs : List α} : atI xs (-1) = xs.getLast? := by
  unfold atI ixN
  cases xs with
  | nil => rfl
  | cons x r =>
    rw [if_neg (by decide), if_pos (by simp; omega)]
    simp only [Option.bind_some]
    rw [List.getLast?_eq_getElem?]
    congr 1
    simp; omega
theorem cut_tail {α : Type} {x : α} {xs : List α} : cutL (x :: xs) (some 1) none = xs := by
  have e : HT.sIx (x :: xs).length 0 (some 1) = 1 := by
    show (if (1 : Int) < 0 then ((1 : Int) + ((x :: xs).length : Nat)).toNat else min 1 (x :: xs).length) = 1
    rw [if_neg (by decide)]
    simp
  unfold cutL
  rw [e]
  show ((x :: xs).drop 1).take ((x :: xs).length - 1) = xs
  simp
def inR (k : Int) : PyData → Bool
  | .int i => decide (0 ≤ i) && decide (i < k)
  | _ => false
/-- a gate behind g others, over m variables -/
def gateOk (m g : Int) : PyData → Bool
  | .tuple [.str w] => w == "yes"
  | .tuple [.str w, x] => if w = "v" then inR m x else w == "not" && inR g x
  | .tuple [.str w, x, y] => (w == "and" || w == "or") && (inR g x && inR g y)
  | _ => false
theorem sm_tup {xs : List PyData} (h : sm (.tuple xs) = true) : xs.length ≤ 65536 ∧ sms xs = true := by
  simpa [sm] using h
theorem sms_cons {x : PyData} {xs : List PyData} (h : sms (x :: xs) = true) : sm x = true ∧ sms xs = true := by
  simpa [sms] using h
theorem sm_str {z : Str} (h : sm (.str z) = true) : PyData.strOk z = true ∧ z.length ≤ 65536 := by
  simpa [sm] using h
theorem x_is_integer (x : PyData) : f_is_integer [x] = some (.bool (isInt x && !isBool x)) := by
  cases x <;> rfl
theorem x_is_from (x : PyData) (k : Int) : f_is_from [x, .int k] = some (.bool (match x with | .int i => decide (k ≤ i) | _ => false)) := by
  cases x <;> simp [f_is_from, e_is_from, N_is_from, runF, outD, slots0, eVar, eC, e1, e2, eNeg, eTst, eNot, eAnd, eOr, eNotV, eAndV, eOrV, eIf, eIsi, eNil, eCons, eCl, eTup, eLst, eAsL, eBor, eBorT, eNoO, eO, eSl, eStep, eZipL, eMt, eChain, eGetO, eIxO, eIL, eIT, eIS, eEnT, eR1, eListOf, eYes, eLc, eLc2, epNil, epD, eLen, eCall, evD, evL, evDisp, evNil, evCons, eNext, eBrk, eCnt, eSeq, eRet, eDrop, eIfS, eFrz, eAsg, ePar, eAsgG, eApp, eExt, ePop, eAug, eFor, gN, gNs, gC, gT, unAll, frz, gtB, gtI, gtL, gtT, gtS, negD, asD, x_is_integer, isInt, isBool, geD, i2]
theorem x_is_tuple (x : PyData) (k : Int) : f_is_tuple [x, .int k] = some (.bool (match x with | .tuple xs => (xs.length : Int) == k | _ => false)) := by
  cases x <;> simp [f_is_tuple, e_is_tuple, N_is_tuple, runF, outD, slots0, eVar, eC, e1, e2, eNeg, eTst, eNot, eAnd, eOr, eNotV, eAndV, eOrV, eIf, eIsi, eNil, eCons, eCl, eTup, eLst, eAsL, eBor, eBorT, eNoO, eO, eSl, eStep, eZipL, eMt, eChain, eGetO, eIxO, eIL, eIT, eIS, eEnT, eR1, eListOf, eYes, eLc, eLc2, epNil, epD, eLen, eCall, evD, evL, evDisp, evNil, evCons, eNext, eBrk, eCnt, eSeq, eRet, eDrop, eIfS, eFrz, eAsg, ePar, eAsgG, eApp, eExt, ePop, eAug, eFor, gN, gNs, gC, gT, unAll, frz, gtB, gtI, gtL, gtT, gtS, negD, asD, isTup, lenD, eqi]
/-- a comprehension that goes straight -/
theorem lcF_map {g : PyData → Option Env'} {t : Env' → Option Bool} {e : Env' → Option PyData} {h : PyData → PyData} : ∀ {ds : List PyData}, (∀ d ∈ ds, ∃ ρ, g d = some ρ ∧ t ρ = some true ∧ e ρ = some (h d)) → lcF g t e ds = some (ds.map h)
  | [], _ => rfl
  | d :: ds, k => by
    obtain ⟨ρ, h1, h2, h3⟩ := k d List.mem_cons_self
    simp [lcF, h1, h2, h3, lcF_map fun d hd => k d (List.mem_cons_of_mem _ hd)]
theorem lcF_filt {g : PyData → Option Env'} {t : Env' → Option Bool} {e : Env' → Option PyData} {h : PyData → PyData} {p : PyData → Bool} : ∀ {ds : List PyData}, (∀ d ∈ ds, ∃ ρ, g d = some ρ ∧ t ρ = some (p d) ∧ (p d = true → e ρ = some (h d))) → lcF g t e ds = some ((ds.filter p).map h)
  | [], _ => rfl
  | d :: ds, k => by
    obtain ⟨ρ, h1, h2, h3⟩ := k d List.mem_cons_self
    have ih := lcF_filt fun d hd => k d (List.mem_cons_of_mem _ hd)
    cases hp : p d with
    | true => simp [lcF, h1, h2, h3 hp, ih, hp]
    | false => simp [lcF, h1, h2, ih, hp]
/-- every sign of it among these -/
def among (z signs : Str) : Bool := z.cps.toList.all fun c => decide (c ∈ signs.cps.toList)
theorem x_is_word_of (x : PyData) (signs : Str) (hs : sm x = true) : f_is_word_of [x, .str signs] = some (.bool (match x with | .str z => among z signs | _ => false)) := by
  cases x with
  | str z =>
    have hz := (sm_str hs).2
    have hl : (signsD z).length ≤ sizeLine := by simp [signsD]; exact Nat.le_trans hz line_big
    simp [f_is_word_of, e_is_word_of, N_is_word_of, runF, outD, slots0, eVar, eC, e1, e2, eNeg, eTst, eNot, eAnd, eOr, eNotV, eAndV, eOrV, eIf, eIsi, eNil, eCons, eCl, eTup, eLst, eAsL, eBor, eBorT, eNoO, eO, eSl, eStep, eZipL, eMt, eChain, eGetO, eIxO, eIL, eIT, eIS, eEnT, eR1, eListOf, eYes, eLc, eLc2, epNil, epD, eLen, eCall, evD, evL, evDisp, evNil, evCons, eNext, eBrk, eCnt, eSeq, eRet, eDrop, eIfS, eFrz, eAsg, ePar, eAsgG, eApp, eExt, ePop, eAug, eFor, gN, gNs, gC, gT, unAll, frz, gtB, gtI, gtL, gtT, gtS, negD, asD, isStr]
    rw [lcF_map (h := fun d => .bool (match d with | .str c => (match c.cps.toList with | [c] => decide (c ∈ signs.cps.toList) | _ => false) | _ => false)) fun d hd => by
      obtain ⟨c, hc, rfl⟩ := List.mem_map.mp hd
      exact ⟨_, rfl, rfl, by simp [runF, outD, slots0, eVar, eC, e1, e2, eNeg, eTst, eNot, eAnd, eOr, eNotV, eAndV, eOrV, eIf, eIsi, eNil, eCons, eCl, eTup, eLst, eAsL, eBor, eBorT, eNoO, eO, eSl, eStep, eZipL, eMt, eChain, eGetO, eIxO, eIL, eIT, eIS, eEnT, eR1, eListOf, eYes, eLc, eLc2, epNil, epD, eLen, eCall, evD, evL, evDisp, evNil, evCons, eNext, eBrk, eCnt, eSeq, eRet, eDrop, eIfS, eFrz, eAsg, ePar, eAsgG, eApp, eExt, ePop, eAug, eFor, gN, gNs, gC, gT, unAll, frz, gtB, gtI, gtL, gtT, gtS, negD, asD, inSg]⟩]
    simp [hl]
    simp [foldBl, signsD, List.map_map, bls_map, Function.comp_def, among, List.all_map, runF, outD, slots0, eVar, eC, e1, e2, eNeg, eTst, eNot, eAnd, eOr, eNotV, eAndV, eOrV, eIf, eIsi, eNil, eCons, eCl, eTup, eLst, eAsL, eBor, eBorT, eNoO, eO, eSl, eStep, eZipL, eMt, eChain, eGetO, eIxO, eIL, eIT, eIS, eEnT, eR1, eListOf, eYes, eLc, eLc2, epNil, epD, eLen, eCall, evD, evL, evDisp, evNil, evCons, eNext, eBrk, eCnt, eSeq, eRet, eDrop, eIfS, eFrz, eAsg, ePar, eAsgG, eApp, eExt, ePop, eAug, eFor, gN, gNs, gC, gT, unAll, frz, gtB, gtI, gtL, gtT, gtS, negD, asD]
  | _ => rfl
end K66
set_option maxRecDepth 100000
set_option maxHeartbeats 4000000
namespace K66
open PySem PySem.Spec L2 DL DR
theorem sm_lt {xs : List PyData} (h : xs.length ≤ 65536) : xs.length ≤ sizeLine := Nat.le_trans h line_big
theorem tup_ne {x : PyData} {xs : List PyData} (h : sm (.tuple (x :: xs)) = true) : eqD (.tuple (x :: xs)) (.tuple []) = some (.bool false) := by
  rw [eqt (sm_lay _ h)]; rfl
theorem ix0 {x : PyData} {xs : List PyData} : ixD (.tuple (x :: xs)) (.int 0) = some x := at0
theorem ix1 {x y : PyData} {xs : List PyData} : ixD (.tuple (x :: y :: xs)) (.int 1) = some y := at1
theorem ix2 {x y z : PyData} {xs : List PyData} : ixD (.tuple (x :: y :: z :: xs)) (.int 2) = some z := at2
theorem len_t {xs : List PyData} : lenD [.tuple xs] = some (.int xs.length) := rfl
theorem ofS_inj {a b : String} : Str.ofString a = Str.ofString b ↔ a = b := by
  constructor
  · intro h
    rw [Str.ofString_eq_toList, Str.ofString_eq_toList] at h
    have h2 : a.toList.map Char.toNat = b.toList.map Char.toNat := by simpa using h
    have : a.toList = b.toList := by
      refine (List.map_inj_right fun x y e => ?_).mp h2
      exact Char.ext (UInt32.toNat_inj.mp e)
    exact String.toList_inj.mp this
  · intro h; rw [h]
/-- the four ways of a word -/
theorem words4 (w : Str) : w = "yes" ∨ w = "v" ∨ w = "not" ∨ (w ≠ "yes" ∧ w ≠ "v" ∧ w ≠ "not") := by
  by_cases h1 : w = "yes"
  · exact .inl h1
  · by_cases h2 : w = "v"
    · exact .inr (.inl h2)
    · by_cases h3 : w = "not"
      · exact .inr (.inr (.inl h3))
      · exact .inr (.inr (.inr ⟨h1, h2, h3⟩))
theorem x_is_gate (t : PyData) (m g : Int) (hs : sm t = true) : f_is_gate [t, .int m, .int g] = some (.bool (gateOk m g t)) := by
  cases t with
  | tuple xs =>
    obtain ⟨hl, hxs⟩ := sm_tup hs
    cases xs with
    | nil => rfl
    | cons x rest =>
      obtain ⟨hx, hr⟩ := sms_cons hxs
      have e0 := tup_ne hs
      cases x with
      | str w =>
        obtain ⟨hw, _⟩ := sm_str hx
        have q1 : eqD (.str w) (.str "yes") = _ := eqs hw (by decide +kernel)
        have q2 : eqD (.str w) (.str "v") = _ := eqs hw (by decide +kernel)
        have q3 : eqD (.str w) (.str "not") = _ := eqs hw (by decide +kernel)
        rcases words4 w with rfl | rfl | rfl | ⟨h1, h2, h3⟩
        · match rest with
          | [] => simp [f_is_gate, e_is_gate, N_is_gate, runF, outD, slots0, eVar, eC, e1, e2, eNeg, eTst, eNot, eAnd, eOr, eNotV, eAndV, eOrV, eIf, eIsi, eNil, eCons, eCl, eTup, eLst, eAsL, eBor, eBorT, eNoO, eO, eSl, eStep, eZipL, eMt, eChain, eGetO, eIxO, eIL, eIT, eIS, eEnT, eR1, eListOf, eYes, eLc, eLc2, epNil, epD, eLen, eCall, evD, evL, evDisp, evNil, evCons, eNext, eBrk, eCnt, eSeq, eRet, eDrop, eIfS, eFrz, eAsg, ePar, eAsgG, eApp, eExt, ePop, eAug, eFor, gN, gNs, gC, gT, unAll, frz, gtB, gtI, gtL, gtT, gtS, negD, asD, e0, isTup, isStr, ix0, q1, q2, q3, len_t, eqi, nei, gateOk]
          | [_] => simp [f_is_gate, e_is_gate, N_is_gate, runF, outD, slots0, eVar, eC, e1, e2, eNeg, eTst, eNot, eAnd, eOr, eNotV, eAndV, eOrV, eIf, eIsi, eNil, eCons, eCl, eTup, eLst, eAsL, eBor, eBorT, eNoO, eO, eSl, eStep, eZipL, eMt, eChain, eGetO, eIxO, eIL, eIT, eIS, eEnT, eR1, eListOf, eYes, eLc, eLc2, epNil, epD, eLen, eCall, evD, evL, evDisp, evNil, evCons, eNext, eBrk, eCnt, eSeq, eRet, eDrop, eIfS, eFrz, eAsg, ePar, eAsgG, eApp, eExt, ePop, eAug, eFor, gN, gNs, gC, gT, unAll, frz, gtB, gtI, gtL, gtT, gtS, negD, asD, e0, isTup, isStr, ix0, q1, q2, q3, len_t, eqi, nei, gateOk, ofS_inj]
          | [_, _] => simp [f_is_gate, e_is_gate, N_is_gate, runF, outD, slots0, eVar, eC, e1, e2, eNeg, eTst, eNot, eAnd, eOr, eNotV, eAndV, eOrV, eIf, eIsi, eNil, eCons, eCl, eTup, eLst, eAsL, eBor, eBorT, eNoO, eO, eSl, eStep, eZipL, eMt, eChain, eGetO, eIxO, eIL, eIT, eIS, eEnT, eR1, eListOf, eYes, eLc, eLc2, epNil, epD, eLen, eCall, evD, evL, evDisp, evNil, evCons, eNext, eBrk, eCnt, eSeq, eRet, eDrop, eIfS, eFrz, eAsg, ePar, eAsgG, eApp, eExt, ePop, eAug, eFor, gN, gNs, gC, gT, unAll, frz, gtB, gtI, gtL, gtT, gtS, negD, asD, e0, isTup, isStr, ix0, q1, q2, q3, len_t, eqi, nei, gateOk, ofS_inj]
          | _ :: _ :: _ :: r =>
            have k4 : ((r.length : Int) + 1 + 1 + 1 + 1 == 2) = false := by simp; omega
            have k5 : ((r.length : Int) + 1 + 1 + 1 + 1 == 1) = false := by simp; omega
            simp [f_is_gate, e_is_gate, N_is_gate, runF, outD, slots0, eVar, eC, e1, e2, eNeg, eTst, eNot, eAnd, eOr, eNotV, eAndV, eOrV, eIf, eIsi, eNil, eCons, eCl, eTup, eLst, eAsL, eBor, eBorT, eNoO, eO, eSl, eStep, eZipL, eMt, eChain, eGetO, eIxO, eIL, eIT, eIS, eEnT, eR1, eListOf, eYes, eLc, eLc2, epNil, epD, eLen, eCall, evD, evL, evDisp, evNil, evCons, eNext, eBrk, eCnt, eSeq, eRet, eDrop, eIfS, eFrz, eAsg, ePar, eAsgG, eApp, eExt, ePop, eAug, eFor, gN, gNs, gC, gT, unAll, frz, gtB, gtI, gtL, gtT, gtS, negD, asD, e0, isTup, isStr, ix0, q1, q2, q3, len_t, eqi, nei, gateOk, ofS_inj, k4, k5]
        · match rest with
          | [] => simp [f_is_gate, e_is_gate, N_is_gate, runF, outD, slots0, eVar, eC, e1, e2, eNeg, eTst, eNot, eAnd, eOr, eNotV, eAndV, eOrV, eIf, eIsi, eNil, eCons, eCl, eTup, eLst, eAsL, eBor, eBorT, eNoO, eO, eSl, eStep, eZipL, eMt, eChain, eGetO, eIxO, eIL, eIT, eIS, eEnT, eR1, eListOf, eYes, eLc, eLc2, epNil, epD, eLen, eCall, evD, evL, evDisp, evNil, evCons, eNext, eBrk, eCnt, eSeq, eRet, eDrop, eIfS, eFrz, eAsg, ePar, eAsgG, eApp, eExt, ePop, eAug, eFor, gN, gNs, gC, gT, unAll, frz, gtB, gtI, gtL, gtT, gtS, negD, asD, e0, isTup, isStr, ix0, q1, q2, q3, len_t, eqi, nei, gateOk, ofS_inj]
          | [a] =>
            cases a with
            | int i => by_cases hi : 0 ≤ i <;> simp [f_is_gate, e_is_gate, N_is_gate, runF, outD, slots0, eVar, eC, e1, e2, eNeg, eTst, eNot, eAnd, eOr, eNotV, eAndV, eOrV, eIf, eIsi, eNil, eCons, eCl, eTup, eLst, eAsL, eBor, eBorT, eNoO, eO, eSl, eStep, eZipL, eMt, eChain, eGetO, eIxO, eIL, eIT, eIS, eEnT, eR1, eListOf, eYes, eLc, eLc2, epNil, epD, eLen, eCall, evD, evL, evDisp, evNil, evCons, eNext, eBrk, eCnt, eSeq, eRet, eDrop, eIfS, eFrz, eAsg, ePar, eAsgG, eApp, eExt, ePop, eAug, eFor, gN, gNs, gC, gT, unAll, frz, gtB, gtI, gtL, gtT, gtS, negD, asD, e0, isTup, isStr, ix0, ix1, q1, q2, q3, len_t, eqi, nei, gateOk, ofS_inj, x_is_from, inR, ltD, i2, hi]
            | _ => simp [f_is_gate, e_is_gate, N_is_gate, runF, outD, slots0, eVar, eC, e1, e2, eNeg, eTst, eNot, eAnd, eOr, eNotV, eAndV, eOrV, eIf, eIsi, eNil, eCons, eCl, eTup, eLst, eAsL, eBor, eBorT, eNoO, eO, eSl, eStep, eZipL, eMt, eChain, eGetO, eIxO, eIL, eIT, eIS, eEnT, eR1, eListOf, eYes, eLc, eLc2, epNil, epD, eLen, eCall, evD, evL, evDisp, evNil, evCons, eNext, eBrk, eCnt, eSeq, eRet, eDrop, eIfS, eFrz, eAsg, ePar, eAsgG, eApp, eExt, ePop, eAug, eFor, gN, gNs, gC, gT, unAll, frz, gtB, gtI, gtL, gtT, gtS, negD, asD, e0, isTup, isStr, ix0, ix1, q1, q2, q3, len_t, eqi, nei, gateOk, ofS_inj, x_is_from, inR, ltD, i2]
          | [_, _] => simp [f_is_gate, e_is_gate, N_is_gate, runF, outD, slots0, eVar, eC, e1, e2, eNeg, eTst, eNot, eAnd, eOr, eNotV, eAndV, eOrV, eIf, eIsi, eNil, eCons, eCl, eTup, eLst, eAsL, eBor, eBorT, eNoO, eO, eSl, eStep, eZipL, eMt, eChain, eGetO, eIxO, eIL, eIT, eIS, eEnT, eR1, eListOf, eYes, eLc, eLc2, epNil, epD, eLen, eCall, evD, evL, evDisp, evNil, evCons, eNext, eBrk, eCnt, eSeq, eRet, eDrop, eIfS, eFrz, eAsg, ePar, eAsgG, eApp, eExt, ePop, eAug, eFor, gN, gNs, gC, gT, unAll, frz, gtB, gtI, gtL, gtT, gtS, negD, asD, e0, isTup, isStr, ix0, q1, q2, q3, len_t, eqi, nei, gateOk, ofS_inj]
          | _ :: _ :: _ :: r =>
            have k4 : ((r.length : Int) + 1 + 1 + 1 + 1 == 2) = false := by simp; omega
            have k5 : ((r.length : Int) + 1 + 1 + 1 + 1 == 1) = false := by simp; omega
            simp [f_is_gate, e_is_gate, N_is_gate, runF, outD, slots0, eVar, eC, e1, e2, eNeg, eTst, eNot, eAnd, eOr, eNotV, eAndV, eOrV, eIf, eIsi, eNil, eCons, eCl, eTup, eLst, eAsL, eBor, eBorT, eNoO, eO, eSl, eStep, eZipL, eMt, eChain, eGetO, eIxO, eIL, eIT, eIS, eEnT, eR1, eListOf, eYes, eLc, eLc2, epNil, epD, eLen, eCall, evD, evL, evDisp, evNil, evCons, eNext, eBrk, eCnt, eSeq, eRet, eDrop, eIfS, eFrz, eAsg, ePar, eAsgG, eApp, eExt, ePop, eAug, eFor, gN, gNs, gC, gT, unAll, frz, gtB, gtI, gtL, gtT, gtS, negD, asD, e0, isTup, isStr, ix0, q1, q2, q3, len_t, eqi, nei, gateOk, ofS_inj, k4, k5]
        · match rest with
          | [] => simp [f_is_gate, e_is_gate, N_is_gate, runF, outD, slots0, eVar, eC, e1, e2, eNeg, eTst, eNot, eAnd, eOr, eNotV, eAndV, eOrV, eIf, eIsi, eNil, eCons, eCl, eTup, eLst, eAsL, eBor, eBorT, eNoO, eO, eSl, eStep, eZipL, eMt, eChain, eGetO, eIxO, eIL, eIT, eIS, eEnT, eR1, eListOf, eYes, eLc, eLc2, epNil, epD, eLen, eCall, evD, evL, evDisp, evNil, evCons, eNext, eBrk, eCnt, eSeq, eRet, eDrop, eIfS, eFrz, eAsg, ePar, eAsgG, eApp, eExt, ePop, eAug, eFor, gN, gNs, gC, gT, unAll, frz, gtB, gtI, gtL, gtT, gtS, negD, asD, e0, isTup, isStr, ix0, q1, q2, q3, len_t, eqi, nei, gateOk, ofS_inj]
          | [a] =>
            cases a with
            | int i => by_cases hi : 0 ≤ i <;> simp [f_is_gate, e_is_gate, N_is_gate, runF, outD, slots0, eVar, eC, e1, e2, eNeg, eTst, eNot, eAnd, eOr, eNotV, eAndV, eOrV, eIf, eIsi, eNil, eCons, eCl, eTup, eLst, eAsL, eBor, eBorT, eNoO, eO, eSl, eStep, eZipL, eMt, eChain, eGetO, eIxO, eIL, eIT, eIS, eEnT, eR1, eListOf, eYes, eLc, eLc2, epNil, epD, eLen, eCall, evD, evL, evDisp, evNil, evCons, eNext, eBrk, eCnt, eSeq, eRet, eDrop, eIfS, eFrz, eAsg, ePar, eAsgG, eApp, eExt, ePop, eAug, eFor, gN, gNs, gC, gT, unAll, frz, gtB, gtI, gtL, gtT, gtS, negD, asD, e0, isTup, isStr, ix0, ix1, q1, q2, q3, len_t, eqi, nei, gateOk, ofS_inj, x_is_from, inR, ltD, i2, hi]
            | _ => simp [f_is_gate, e_is_gate, N_is_gate, runF, outD, slots0, eVar, eC, e1, e2, eNeg, eTst, eNot, eAnd, eOr, eNotV, eAndV, eOrV, eIf, eIsi, eNil, eCons, eCl, eTup, eLst, eAsL, eBor, eBorT, eNoO, eO, eSl, eStep, eZipL, eMt, eChain, eGetO, eIxO, eIL, eIT, eIS, eEnT, eR1, eListOf, eYes, eLc, eLc2, epNil, epD, eLen, eCall, evD, evL, evDisp, evNil, evCons, eNext, eBrk, eCnt, eSeq, eRet, eDrop, eIfS, eFrz, eAsg, ePar, eAsgG, eApp, eExt, ePop, eAug, eFor, gN, gNs, gC, gT, unAll, frz, gtB, gtI, gtL, gtT, gtS, negD, asD, e0, isTup, isStr, ix0, ix1, q1, q2, q3, len_t, eqi, nei, gateOk, ofS_inj, x_is_from, inR, ltD, i2]
          | [_, _] => simp [f_is_gate, e_is_gate, N_is_gate, runF, outD, slots0, eVar, eC, e1, e2, eNeg, eTst, eNot, eAnd, eOr, eNotV, eAndV, eOrV, eIf, eIsi, eNil, eCons, eCl, eTup, eLst, eAsL, eBor, eBorT, eNoO, eO, eSl, eStep, eZipL, eMt, eChain, eGetO, eIxO, eIL, eIT, eIS, eEnT, eR1, eListOf, eYes, eLc, eLc2, epNil, epD, eLen, eCall, evD, evL, evDisp, evNil, evCons, eNext, eBrk, eCnt, eSeq, eRet, eDrop, eIfS, eFrz, eAsg, ePar, eAsgG, eApp, eExt, ePop, eAug, eFor, gN, gNs, gC, gT, unAll, frz, gtB, gtI, gtL, gtT, gtS, negD, asD, e0, isTup, isStr, ix0, q1, q2, q3, len_t, eqi, nei, gateOk, ofS_inj]
          | _ :: _ :: _ :: r =>
            have k4 : ((r.length : Int) + 1 + 1 + 1 + 1 == 2) = false := by simp; omega
            have k5 : ((r.length : Int) + 1 + 1 + 1 + 1 == 1) = false := by simp; omega
            simp [f_is_gate, e_is_gate, N_is_gate, runF, outD, slots0, eVar, eC, e1, e2, eNeg, eTst, eNot, eAnd, eOr, eNotV, eAndV, eOrV, eIf, eIsi, eNil, eCons, eCl, eTup, eLst, eAsL, eBor, eBorT, eNoO, eO, eSl, eStep, eZipL, eMt, eChain, eGetO, eIxO, eIL, eIT, eIS, eEnT, eR1, eListOf, eYes, eLc, eLc2, epNil, epD, eLen, eCall, evD, evL, evDisp, evNil, evCons, eNext, eBrk, eCnt, eSeq, eRet, eDrop, eIfS, eFrz, eAsg, ePar, eAsgG, eApp, eExt, ePop, eAug, eFor, gN, gNs, gC, gT, unAll, frz, gtB, gtI, gtL, gtT, gtS, negD, asD, e0, isTup, isStr, ix0, q1, q2, q3, len_t, eqi, nei, gateOk, ofS_inj, k4, k5]
        · by_cases hj : w = "and" ∨ w = "or"
          · match rest with
            | [a, b] =>
              have k1 := lcF_map (g := fun d => some [Sl.d (.tuple [.str w, a, b]), .d (.int m), .d (.int g), .d d]) (t := eYes) (e := eAndV (eCall f_is_from (eLen 2 (epD (eVar 3) (epD (eC (.int 0)) epNil)))) (e2 ltD (eVar 3) (eVar 2))) (ds := [a, b]) (h := fun d => .bool (inR g d)) (fun d hd => ⟨_, rfl, rfl, by
                cases d with
                | int i => by_cases hi : 0 ≤ i <;> simp [runF, outD, slots0, eVar, eC, e1, e2, eNeg, eTst, eNot, eAnd, eOr, eNotV, eAndV, eOrV, eIf, eIsi, eNil, eCons, eCl, eTup, eLst, eAsL, eBor, eBorT, eNoO, eO, eSl, eStep, eZipL, eMt, eChain, eGetO, eIxO, eIL, eIT, eIS, eEnT, eR1, eListOf, eYes, eLc, eLc2, epNil, epD, eLen, eCall, evD, evL, evDisp, evNil, evCons, eNext, eBrk, eCnt, eSeq, eRet, eDrop, eIfS, eFrz, eAsg, ePar, eAsgG, eApp, eExt, ePop, eAug, eFor, gN, gNs, gC, gT, unAll, frz, gtB, gtI, gtL, gtT, gtS, negD, asD, x_is_from, inR, ltD, i2, hi]
                | _ => simp [runF, outD, slots0, eVar, eC, e1, e2, eNeg, eTst, eNot, eAnd, eOr, eNotV, eAndV, eOrV, eIf, eIsi, eNil, eCons, eCl, eTup, eLst, eAsL, eBor, eBorT, eNoO, eO, eSl, eStep, eZipL, eMt, eChain, eGetO, eIxO, eIL, eIT, eIS, eEnT, eR1, eListOf, eYes, eLc, eLc2, epNil, epD, eLen, eCall, evD, evL, evDisp, evNil, evCons, eNext, eBrk, eCnt, eSeq, eRet, eDrop, eIfS, eFrz, eAsg, ePar, eAsgG, eApp, eExt, ePop, eAug, eFor, gN, gNs, gC, gT, unAll, frz, gtB, gtI, gtL, gtT, gtS, negD, asD, x_is_from, inR, ltD, i2]⟩)
              have k3 : slD (.tuple [.str w, a, b]) (some 1) none = some (.tuple [a, b]) := by simp [slD, cut_tail]
              have k2 : (2 : Nat) ≤ sizeLine := by decide
              simp [f_is_gate, e_is_gate, N_is_gate, runF, outD, slots0, eVar, eC, e1, e2, eNeg, eTst, eNot, eAnd, eOr, eNotV, eAndV, eOrV, eIf, eIsi, eNil, eCons, eCl, eTup, eLst, eAsL, eBor, eBorT, eNoO, eO, eSl, eStep, eZipL, eMt, eChain, eGetO, eIxO, eIL, eIT, eIS, eEnT, eR1, eListOf, eYes, eLc, eLc2, epNil, epD, eLen, eCall, evD, evL, evDisp, evNil, evCons, eNext, eBrk, eCnt, eSeq, eRet, eDrop, eIfS, eFrz, eAsg, ePar, eAsgG, eApp, eExt, ePop, eAug, eFor, gN, gNs, gC, gT, unAll, frz, gtB, gtI, gtL, gtT, gtS, negD, asD, e0, isTup, isStr, ix0, q1, q2, q3, len_t, eqi, nei, h1, h2, h3, inTx, g_JOINING, strsOf, hj, k3, neb]
              rw [k1]
              have hj2 : (w == Str.ofString "and" || w == Str.ofString "or") = true := by simpa using hj
              simp [k2, foldBl, blsOf, gateOk, hj2, outD]
            | [] => simp [f_is_gate, e_is_gate, N_is_gate, runF, outD, slots0, eVar, eC, e1, e2, eNeg, eTst, eNot, eAnd, eOr, eNotV, eAndV, eOrV, eIf, eIsi, eNil, eCons, eCl, eTup, eLst, eAsL, eBor, eBorT, eNoO, eO, eSl, eStep, eZipL, eMt, eChain, eGetO, eIxO, eIL, eIT, eIS, eEnT, eR1, eListOf, eYes, eLc, eLc2, epNil, epD, eLen, eCall, evD, evL, evDisp, evNil, evCons, eNext, eBrk, eCnt, eSeq, eRet, eDrop, eIfS, eFrz, eAsg, ePar, eAsgG, eApp, eExt, ePop, eAug, eFor, gN, gNs, gC, gT, unAll, frz, gtB, gtI, gtL, gtT, gtS, negD, asD, e0, isTup, isStr, ix0, q1, q2, q3, len_t, eqi, nei, h1, h2, h3, inTx, g_JOINING, strsOf, hj, gateOk]
            | [_] => simp [f_is_gate, e_is_gate, N_is_gate, runF, outD, slots0, eVar, eC, e1, e2, eNeg, eTst, eNot, eAnd, eOr, eNotV, eAndV, eOrV, eIf, eIsi, eNil, eCons, eCl, eTup, eLst, eAsL, eBor, eBorT, eNoO, eO, eSl, eStep, eZipL, eMt, eChain, eGetO, eIxO, eIL, eIT, eIS, eEnT, eR1, eListOf, eYes, eLc, eLc2, epNil, epD, eLen, eCall, evD, evL, evDisp, evNil, evCons, eNext, eBrk, eCnt, eSeq, eRet, eDrop, eIfS, eFrz, eAsg, ePar, eAsgG, eApp, eExt, ePop, eAug, eFor, gN, gNs, gC, gT, unAll, frz, gtB, gtI, gtL, gtT, gtS, negD, asD, e0, isTup, isStr, ix0, q1, q2, q3, len_t, eqi, nei, h1, h2, h3, inTx, g_JOINING, strsOf, hj, gateOk]
            | _ :: _ :: _ :: r =>
              have k4 : ((r.length : Int) + 1 + 1 + 1 + 1 == 3) = false := by simp; omega
              simp [f_is_gate, e_is_gate, N_is_gate, runF, outD, slots0, eVar, eC, e1, e2, eNeg, eTst, eNot, eAnd, eOr, eNotV, eAndV, eOrV, eIf, eIsi, eNil, eCons, eCl, eTup, eLst, eAsL, eBor, eBorT, eNoO, eO, eSl, eStep, eZipL, eMt, eChain, eGetO, eIxO, eIL, eIT, eIS, eEnT, eR1, eListOf, eYes, eLc, eLc2, epNil, epD, eLen, eCall, evD, evL, evDisp, evNil, evCons, eNext, eBrk, eCnt, eSeq, eRet, eDrop, eIfS, eFrz, eAsg, ePar, eAsgG, eApp, eExt, ePop, eAug, eFor, gN, gNs, gC, gT, unAll, frz, gtB, gtI, gtL, gtT, gtS, negD, asD, e0, isTup, isStr, ix0, q1, q2, q3, len_t, eqi, nei, h1, h2, h3, inTx, g_JOINING, strsOf, hj, gateOk, k4]
          · have : gateOk m g (.tuple (.str w :: rest)) = false := by
              match rest with
              | [] => simp [gateOk, h1]
              | [_] => simp [gateOk, h2, h3]
              | [_, _] => simp only [not_or] at hj; simp [gateOk, hj]
              | _ :: _ :: _ :: _ => rfl
            simp [f_is_gate, e_is_gate, N_is_gate, runF, outD, slots0, eVar, eC, e1, e2, eNeg, eTst, eNot, eAnd, eOr, eNotV, eAndV, eOrV, eIf, eIsi, eNil, eCons, eCl, eTup, eLst, eAsL, eBor, eBorT, eNoO, eO, eSl, eStep, eZipL, eMt, eChain, eGetO, eIxO, eIL, eIT, eIS, eEnT, eR1, eListOf, eYes, eLc, eLc2, epNil, epD, eLen, eCall, evD, evL, evDisp, evNil, evCons, eNext, eBrk, eCnt, eSeq, eRet, eDrop, eIfS, eFrz, eAsg, ePar, eAsgG, eApp, eExt, ePop, eAug, eFor, gN, gNs, gC, gT, unAll, frz, gtB, gtI, gtL, gtT, gtS, negD, asD, e0, isTup, isStr, ix0, q1, q2, q3, len_t, eqi, nei, h1, h2, h3, inTx, g_JOINING, strsOf, hj, this]
      | _ => simp [f_is_gate, e_is_gate, N_is_gate, runF, outD, slots0, eVar, eC, e1, e2, eNeg, eTst, eNot, eAnd, eOr, eNotV, eAndV, eOrV, eIf, eIsi, eNil, eCons, eCl, eTup, eLst, eAsL, eBor, eBorT, eNoO, eO, eSl, eStep, eZipL, eMt, eChain, eGetO, eIxO, eIL, eIT, eIS, eEnT, eR1, eListOf, eYes, eLc, eLc2, epNil, epD, eLen, eCall, evD, evL, evDisp, evNil, evCons, eNext, eBrk, eCnt, eSeq, eRet, eDrop, eIfS, eFrz, eAsg, ePar, eAsgG, eApp, eExt, ePop, eAug, eFor, gN, gNs, gC, gT, unAll, frz, gtB, gtI, gtL, gtT, gtS, negD, asD, e0, isTup, isStr, ix0, gateOk]
  | _ => rfl
/-- a circuit -/
def gatesOk (m : Int) : List PyData → Nat → Bool
  | [], _ => true
  | d :: ds, n => gateOk m n d && gatesOk m ds (n + 1)
def circOk : PyData → Bool
  | .tuple [.str p, .tuple gs] => among p "ea" && !gs.isEmpty && gatesOk p.length gs 0
  | _ => false
theorem enum_all (m : Int) : ∀ (ds : List PyData) (n : Nat), (ds.zipIdx n).all (fun p => gateOk m p.2 p.1) = gatesOk m ds n
  | [], _ => rfl
  | d :: ds, n => by simp [gatesOk, List.zipIdx_cons, ← enum_all m ds (n + 1)]
end K66
set_option maxRecDepth 100000
set_option maxHeartbeats 4000000
namespace K66
open PySem PySem.Spec L2 DL DR
theorem enum_mem {gs : List PyData} {d : PyData} (h : d ∈ enumD gs) : ∃ (n : Nat) (g : PyData), d = .tuple [.int n, g] ∧ (g, n) ∈ gs.zipIdx := by
  obtain ⟨p, hp, rfl⟩ := List.mem_map.mp h
  exact ⟨p.2, p.1, rfl, hp⟩
theorem zipIdx_mem {gs : List PyData} {g : PyData} {n : Nat} (h : (g, n) ∈ gs.zipIdx) : g ∈ gs := by
  have := List.mem_zipIdx h
  rw [this.2.2]; exact List.getElem_mem _
theorem enum_len {gs : List PyData} : (enumD gs).length = gs.length := by simp [enumD]
theorem len_s {z : Str} (h : z.length ≤ 65536) : lenD [.str z] = some (.int z.length) := by simp [lenD, Nat.le_trans h line_big]
/-- what the second of an enumerated pair is told -/
def sndP (p : Nat → PyData → Bool) : PyData → Bool
  | .tuple [.int n, g] => p n.toNat g
  | _ => false
theorem enum_fold (m : Int) (gs : List PyData) : (enumD gs).all (sndP fun n g => gateOk m n g) = gatesOk m gs 0 := by
  rw [← enum_all m gs 0]
  simp [enumD, List.all_map, Function.comp_def, sndP]
theorem x_is_circuit_value (t : PyData) (hs : sm t = true) : f_is_circuit_value [t] = some (.bool (circOk t)) := by
  cases t with
  | tuple xs =>
    obtain ⟨hl, hxs⟩ := sm_tup hs
    match xs with
    | [] => simp [f_is_circuit_value, e_is_circuit_value, N_is_circuit_value, runF, outD, slots0, eVar, eC, e1, e2, eNeg, eTst, eNot, eAnd, eOr, eNotV, eAndV, eOrV, eIf, eIsi, eNil, eCons, eCl, eTup, eLst, eAsL, eBor, eBorT, eNoO, eO, eSl, eStep, eZipL, eMt, eChain, eGetO, eIxO, eIL, eIT, eIS, eEnT, eR1, eListOf, eYes, eLc, eLc2, epNil, epD, eLen, eCall, evD, evL, evDisp, evNil, evCons, eNext, eBrk, eCnt, eSeq, eRet, eDrop, eIfS, eFrz, eAsg, ePar, eAsgG, eApp, eExt, ePop, eAug, eFor, gN, gNs, gC, gT, unAll, frz, gtB, gtI, gtL, gtT, gtS, negD, asD, x_is_tuple, circOk]
    | [_] => simp [f_is_circuit_value, e_is_circuit_value, N_is_circuit_value, runF, outD, slots0, eVar, eC, e1, e2, eNeg, eTst, eNot, eAnd, eOr, eNotV, eAndV, eOrV, eIf, eIsi, eNil, eCons, eCl, eTup, eLst, eAsL, eBor, eBorT, eNoO, eO, eSl, eStep, eZipL, eMt, eChain, eGetO, eIxO, eIL, eIT, eIS, eEnT, eR1, eListOf, eYes, eLc, eLc2, epNil, epD, eLen, eCall, evD, evL, evDisp, evNil, evCons, eNext, eBrk, eCnt, eSeq, eRet, eDrop, eIfS, eFrz, eAsg, ePar, eAsgG, eApp, eExt, ePop, eAug, eFor, gN, gNs, gC, gT, unAll, frz, gtB, gtI, gtL, gtT, gtS, negD, asD, x_is_tuple, circOk]
    | a :: b :: c :: r =>
      have k4 : ((r.length : Int) + 1 + 1 + 1 == 2) = false := by simp; omega
      simp [f_is_circuit_value, e_is_circuit_value, N_is_circuit_value, runF, outD, slots0, eVar, eC, e1, e2, eNeg, eTst, eNot, eAnd, eOr, eNotV, eAndV, eOrV, eIf, eIsi, eNil, eCons, eCl, eTup, eLst, eAsL, eBor, eBorT, eNoO, eO, eSl, eStep, eZipL, eMt, eChain, eGetO, eIxO, eIL, eIT, eIS, eEnT, eR1, eListOf, eYes, eLc, eLc2, epNil, epD, eLen, eCall, evD, evL, evDisp, evNil, evCons, eNext, eBrk, eCnt, eSeq, eRet, eDrop, eIfS, eFrz, eAsg, ePar, eAsgG, eApp, eExt, ePop, eAug, eFor, gN, gNs, gC, gT, unAll, frz, gtB, gtI, gtL, gtT, gtS, negD, asD, x_is_tuple, circOk, k4]
    | [a, b] =>
      obtain ⟨ha, hr⟩ := sms_cons hxs
      obtain ⟨hb, _⟩ := sms_cons hr
      cases a with
      | str p =>
        have hp := (sm_str ha).2
        by_cases hw : among p "ea" = true
        · cases b with
          | tuple gs =>
            obtain ⟨hgl, hg⟩ := sm_tup hb
            cases gs with
            | nil => simp [f_is_circuit_value, e_is_circuit_value, N_is_circuit_value, runF, outD, slots0, eVar, eC, e1, e2, eNeg, eTst, eNot, eAnd, eOr, eNotV, eAndV, eOrV, eIf, eIsi, eNil, eCons, eCl, eTup, eLst, eAsL, eBor, eBorT, eNoO, eO, eSl, eStep, eZipL, eMt, eChain, eGetO, eIxO, eIL, eIT, eIS, eEnT, eR1, eListOf, eYes, eLc, eLc2, epNil, epD, eLen, eCall, evD, evL, evDisp, evNil, evCons, eNext, eBrk, eCnt, eSeq, eRet, eDrop, eIfS, eFrz, eAsg, ePar, eAsgG, eApp, eExt, ePop, eAug, eFor, gN, gNs, gC, gT, unAll, frz, gtB, gtI, gtL, gtT, gtS, negD, asD, x_is_tuple, circOk, ix0, ix1, x_is_word_of _ _ ha, hw, isTup, eqt (sm_lay _ hb)]; rfl
            | cons g0 gs =>
              have k1 : lcF (fun d => gT 2 (gC (gN 1) (gC (gN 2) gNs)) d [Sl.d (.tuple [.str p, .tuple (g0 :: gs)]), .un, .un]) eYes (eCall f_is_gate (eLen 3 (epD (eVar 2) (epD (eCl lenD (eCons (e2 ixD (eVar 0) (eC (.int 0))) eNil)) (epD (eVar 1) epNil))))) (enumD (g0 :: gs)) = some ((enumD (g0 :: gs)).map fun d => .bool (sndP (fun n g => gateOk p.length n g) d)) := lcF_map (fun d hd => by
                obtain ⟨n, g, rfl, hm⟩ := enum_mem hd
                refine ⟨[Sl.d (.tuple [.str p, .tuple (g0 :: gs)]), .d (.int n), .d g], by simp [runF, outD, slots0, eVar, eC, e1, e2, eNeg, eTst, eNot, eAnd, eOr, eNotV, eAndV, eOrV, eIf, eIsi, eNil, eCons, eCl, eTup, eLst, eAsL, eBor, eBorT, eNoO, eO, eSl, eStep, eZipL, eMt, eChain, eGetO, eIxO, eIL, eIT, eIS, eEnT, eR1, eListOf, eYes, eLc, eLc2, epNil, epD, eLen, eCall, evD, evL, evDisp, evNil, evCons, eNext, eBrk, eCnt, eSeq, eRet, eDrop, eIfS, eFrz, eAsg, ePar, eAsgG, eApp, eExt, ePop, eAug, eFor, gN, gNs, gC, gT, unAll, frz, gtB, gtI, gtL, gtT, gtS, negD, asD], rfl, ?_⟩
                have hsg := sms_mem hg (zipIdx_mem hm)
                simp [runF, outD, slots0, eVar, eC, e1, e2, eNeg, eTst, eNot, eAnd, eOr, eNotV, eAndV, eOrV, eIf, eIsi, eNil, eCons, eCl, eTup, eLst, eAsL, eBor, eBorT, eNoO, eO, eSl, eStep, eZipL, eMt, eChain, eGetO, eIxO, eIL, eIT, eIS, eEnT, eR1, eListOf, eYes, eLc, eLc2, epNil, epD, eLen, eCall, evD, evL, evDisp, evNil, evCons, eNext, eBrk, eCnt, eSeq, eRet, eDrop, eIfS, eFrz, eAsg, ePar, eAsgG, eApp, eExt, ePop, eAug, eFor, gN, gNs, gC, gT, unAll, frz, gtB, gtI, gtL, gtT, gtS, negD, asD, ix0, len_s hp, x_is_gate _ _ _ hsg, sndP])
              have k2 : (enumD (g0 :: gs)).length ≤ sizeLine := by rw [enum_len]; exact sm_lt hgl
              simp [f_is_circuit_value, e_is_circuit_value, N_is_circuit_value, runF, outD, slots0, eVar, eC, e1, e2, eNeg, eTst, eNot, eAnd, eOr, eNotV, eAndV, eOrV, eIf, eIsi, eNil, eCons, eCl, eTup, eLst, eAsL, eBor, eBorT, eNoO, eO, eSl, eStep, eZipL, eMt, eChain, eGetO, eIxO, eIL, eIT, eIS, eEnT, eR1, eListOf, eYes, eLc, eLc2, epNil, epD, eLen, eCall, evD, evL, evDisp, evNil, evCons, eNext, eBrk, eCnt, eSeq, eRet, eDrop, eIfS, eFrz, eAsg, ePar, eAsgG, eApp, eExt, ePop, eAug, eFor, unAll, frz, gtB, gtI, gtL, gtT, gtS, negD, asD, x_is_tuple, circOk, ix0, ix1, x_is_word_of _ _ ha, hw, isTup, tup_ne hb]
              rw [k1]
              simp [k2, foldBl, bls_map, outD]
              exact enum_fold p.length (g0 :: gs)
          | _ => simp [f_is_circuit_value, e_is_circuit_value, N_is_circuit_value, runF, outD, slots0, eVar, eC, e1, e2, eNeg, eTst, eNot, eAnd, eOr, eNotV, eAndV, eOrV, eIf, eIsi, eNil, eCons, eCl, eTup, eLst, eAsL, eBor, eBorT, eNoO, eO, eSl, eStep, eZipL, eMt, eChain, eGetO, eIxO, eIL, eIT, eIS, eEnT, eR1, eListOf, eYes, eLc, eLc2, epNil, epD, eLen, eCall, evD, evL, evDisp, evNil, evCons, eNext, eBrk, eCnt, eSeq, eRet, eDrop, eIfS, eFrz, eAsg, ePar, eAsgG, eApp, eExt, ePop, eAug, eFor, gN, gNs, gC, gT, unAll, frz, gtB, gtI, gtL, gtT, gtS, negD, asD, x_is_tuple, circOk, ix0, ix1, x_is_word_of _ _ ha, hw, isTup]
        · simp only [Bool.not_eq_true] at hw
          have hc : circOk (.tuple [.str p, b]) = false := by cases b <;> simp [circOk, hw]
          simp [f_is_circuit_value, e_is_circuit_value, N_is_circuit_value, runF, outD, slots0, eVar, eC, e1, e2, eNeg, eTst, eNot, eAnd, eOr, eNotV, eAndV, eOrV, eIf, eIsi, eNil, eCons, eCl, eTup, eLst, eAsL, eBor, eBorT, eNoO, eO, eSl, eStep, eZipL, eMt, eChain, eGetO, eIxO, eIL, eIT, eIS, eEnT, eR1, eListOf, eYes, eLc, eLc2, epNil, epD, eLen, eCall, evD, evL, evDisp, evNil, evCons, eNext, eBrk, eCnt, eSeq, eRet, eDrop, eIfS, eFrz, eAsg, ePar, eAsgG, eApp, eExt, ePop, eAug, eFor, gN, gNs, gC, gT, unAll, frz, gtB, gtI, gtL, gtT, gtS, negD, asD, x_is_tuple, hc, ix0, x_is_word_of _ _ ha, hw]
      | _ => simp [f_is_circuit_value, e_is_circuit_value, N_is_circuit_value, runF, outD, slots0, eVar, eC, e1, e2, eNeg, eTst, eNot, eAnd, eOr, eNotV, eAndV, eOrV, eIf, eIsi, eNil, eCons, eCl, eTup, eLst, eAsL, eBor, eBorT, eNoO, eO, eSl, eStep, eZipL, eMt, eChain, eGetO, eIxO, eIL, eIT, eIS, eEnT, eR1, eListOf, eYes, eLc, eLc2, epNil, epD, eLen, eCall, evD, evL, evDisp, evNil, evCons, eNext, eBrk, eCnt, eSeq, eRet, eDrop, eIfS, eFrz, eAsg, ePar, eAsgG, eApp, eExt, ePop, eAug, eFor, gN, gNs, gC, gT, unAll, frz, gtB, gtI, gtL, gtT, gtS, negD, asD, x_is_tuple, circOk, ix0, x_is_word_of _ _ ha]
  | _ => simp [f_is_circuit_value, e_is_circuit_value, N_is_circuit_value, runF, outD, slots0, eVar, eC, e1, e2, eNeg, eTst, eNot, eAnd, eOr, eNotV, eAndV, eOrV, eIf, eIsi, eNil, eCons, eCl, eTup, eLst, eAsL, eBor, eBorT, eNoO, eO, eSl, eStep, eZipL, eMt, eChain, eGetO, eIxO, eIL, eIT, eIS, eEnT, eR1, eListOf, eYes, eLc, eLc2, epNil, epD, eLen, eCall, evD, evL, evDisp, evNil, evCons, eNext, eBrk, eCnt, eSeq, eRet, eDrop, eIfS, eFrz, eAsg, ePar, eAsgG, eApp, eExt, ePop, eAug, eFor, gN, gNs, gC, gT, unAll, frz, gtB, gtI, gtL, gtT, gtS, negD, asD, x_is_tuple, circOk]
end K66
set_option maxRecDepth 100000
set_option maxHeartbeats 4000000
namespace K66
open PySem PySem.Spec L2 DL DR
theorem ones_lay {α : Type} : ∀ l : List α, PyData.canLayAll0 (l.map fun _ => PyData.int 1) = true
  | [] => rfl
  | x :: l => by simp [PyData.canLayAll0, PyData.canLay0, ones_lay l]
theorem ones_ne {α : Type} (l : List α) : neD (.list (l.map fun _ => PyData.int 1)) (.list []) = some (.bool (!l.isEmpty)) := by
  rw [nel (by simpa [PyData.canLay0] using ones_lay l)]
  cases l <;> rfl
theorem ones_eq {α : Type} (l : List α) : eqD (.list (l.map fun _ => PyData.int 1)) (.list []) = some (.bool l.isEmpty) := by
  rw [eql (by simpa [PyData.canLay0] using ones_lay l)]
  cases l <;> rfl
theorem nel0 : neD (.list []) (.list []) = some (.bool false) := rfl
theorem all_filter {α : Type} (p : α → Bool) (l : List α) : (l.filter fun d => !p d).isEmpty = l.all p := by
  induction l with
  | nil => rfl
  | cons x l ih => cases h : p x <;> simp [h, ih]
theorem filter_len {α : Type} (p : α → Bool) (l : List α) : (l.filter p).length ≤ l.length := List.length_filter_le p l
theorem x__law_is_whole (x : PyData) : f__law_is_whole [x] = some (.bool (isInt x && !isBool x)) := by
  cases x <;> rfl
def sizeW (w : Str) : Int := if w = "yes" then 1 else if w = "v" then 2 else if w = "not" then 2 else if w = "and" then 3 else if w = "or" then 3 else 0
theorem sizes_get (w : Str) : (valD (keysOf [("yes" , 1) , ("v" , 2) , ("not" , 2) , ("and" , 3) , ("or" , 3)]) (.inr w)).getD (.int 0) = .int (sizeW w) := by
  have hs : ∀ a : Str, (decide ((Sum.inr a : Key) = Sum.inr w)) = decide (w = a) := fun a => by
    by_cases h : w = a
    · simp [h]
    · simp [h, Ne.symm h]
  simp only [valD, keysOf, List.map, List.find?, hs, sizeW]
  by_cases h1 : w = "yes"
  · simp [h1, ofS_inj]
  · by_cases h2 : w = "v"
    · simp [h1, h2, ofS_inj]
    · by_cases h3 : w = "not"
      · simp [h1, h2, h3, ofS_inj]
      · by_cases h4 : w = "and"
        · simp [h1, h2, h3, h4, ofS_inj]
        · by_cases h5 : w = "or"
          · simp [h1, h2, h3, h4, h5, ofS_inj]
          · simp [h1, h2, h3, h4, h5, ofS_inj]
def wholeD (d : PyData) : Bool := isInt d && !isBool d
theorem lg (w : Str) (rest : List PyData) (m g : Int) (hs : sm (.tuple (.str w :: rest)) = true) : f__law_is_gate [.int m, .int g, .tuple (.str w :: rest)] = some (.bool (decide (sizeW w = rest.length + 1) && rest.all (inR (if w = "v" then m else g)))) := by
  obtain ⟨hl, hxs⟩ := sm_tup hs
  obtain ⟨hx, hr⟩ := sms_cons hxs
  obtain ⟨hw, _⟩ := sm_str hx
  have e0 := tup_ne hs
  have q2 : eqD (.str w) (.str "v") = _ := eqs hw (by decide +kernel)
  have hrl : rest.length ≤ 65536 := by simp at hl; omega
  have k3 : slD (.tuple (.str w :: rest)) (some 1) none = some (.tuple rest) := by simp [slD, cut_tail]
  have k1 : ∀ σ : Env', σ = [Sl.d (.int m), .d (.int g), .d (.tuple (.str w :: rest)), .k (keysOf [("yes" , 1) , ("v" , 2) , ("not" , 2) , ("and" , 3) , ("or" , 3)]), .un] → lcF (fun d => gN 4 d σ) (eNot (eTst (eCall f__law_is_whole (eLen 1 (epD (eVar 4) epNil))))) (eC (.int 1)) rest = some ((rest.filter fun d => !wholeD d).map fun _ => .int 1) := fun σ hσ => lcF_filt fun d hd => ⟨_, rfl, by rw [hσ]; simp [runF, outD, slots0, eVar, eC, e1, e2, eNeg, eTst, eNot, eAnd, eOr, eNotV, eAndV, eOrV, eIf, eIsi, eNil, eCons, eCl, eTup, eLst, eAsL, eBor, eBorT, eNoO, eO, eSl, eStep, eZipL, eMt, eChain, eGetO, eIxO, eIL, eIT, eIS, eEnT, eR1, eListOf, eYes, eLc, eLc2, epNil, epD, eLen, eCall, evD, evL, evDisp, evNil, evCons, eNext, eBrk, eCnt, eSeq, eRet, eDrop, eIfS, eFrz, eAsg, ePar, eAsgG, eApp, eExt, ePop, eAug, eFor, gN, gNs, gC, gT, unAll, frz, gtB, gtI, gtL, gtT, gtS, negD, asD, x__law_is_whole, wholeD], fun _ => rfl⟩
  by_cases hz : sizeW w = rest.length + 1
  · by_cases hwh : ∀ d ∈ rest, wholeD d = true
    · have f1 : (rest.filter fun d => !wholeD d) = [] := by simpa using hwh
      have k2 : ∀ σ : Env', σ = [Sl.d (.int m), .d (.int g), .d (.tuple (.str w :: rest)), .k (keysOf [("yes" , 1) , ("v" , 2) , ("not" , 2) , ("and" , 3) , ("or" , 3)]), .un] → lcF (fun d => gN 4 d σ) (eNot (eTst (eChain leD ltD (eC (.int 0)) (eVar 4) (eIf (eTst (e2 eqD (e2 ixD (eVar 2) (eC (.int 0))) (eC (.str "v")))) (eVar 0) (eVar 1))))) (eC (.int 1)) rest = some ((rest.filter fun d => !inR (if w = "v" then m else g) d).map fun _ => .int 1) := fun σ hσ => lcF_filt fun d hd => ⟨_, rfl, by
        rw [hσ]
        have := hwh d hd
        cases d with
        | int i =>
          by_cases hv : w = "v"
          · subst hv
            by_cases hi : 0 ≤ i <;> simp [runF, outD, slots0, eVar, eC, e1, e2, eNeg, eTst, eNot, eAnd, eOr, eNotV, eAndV, eOrV, eIf, eIsi, eNil, eCons, eCl, eTup, eLst, eAsL, eBor, eBorT, eNoO, eO, eSl, eStep, eZipL, eMt, eChain, eGetO, eIxO, eIL, eIT, eIS, eEnT, eR1, eListOf, eYes, eLc, eLc2, epNil, epD, eLen, eCall, evD, evL, evDisp, evNil, evCons, eNext, eBrk, eCnt, eSeq, eRet, eDrop, eIfS, eFrz, eAsg, ePar, eAsgG, eApp, eExt, ePop, eAug, eFor, gN, gNs, gC, gT, unAll, frz, gtB, gtI, gtL, gtT, gtS, negD, asD, ix0, q2, hi, leD, ltD, i2, inR]
          · by_cases hi : 0 ≤ i <;> simp [runF, outD, slots0, eVar, eC, e1, e2, eNeg, eTst, eNot, eAnd, eOr, eNotV, eAndV, eOrV, eIf, eIsi, eNil, eCons, eCl, eTup, eLst, eAsL, eBor, eBorT, eNoO, eO, eSl, eStep, eZipL, eMt, eChain, eGetO, eIxO, eIL, eIT, eIS, eEnT, eR1, eListOf, eYes, eLc, eLc2, epNil, epD, eLen, eCall, evD, evL, evDisp, evNil, evCons, eNext, eBrk, eCnt, eSeq, eRet, eDrop, eIfS, eFrz, eAsg, ePar, eAsgG, eApp, eExt, ePop, eAug, eFor, gN, gNs, gC, gT, unAll, frz, gtB, gtI, gtL, gtT, gtS, negD, asD, ix0, q2, hv, hi, leD, ltD, i2, inR]
        | _ => simp [wholeD, isInt, isBool] at this, fun _ => rfl⟩
      have k4 : (rest.filter fun d => !inR (if w = "v" then m else g) d).length ≤ sizeLine := sm_lt (Nat.le_trans (filter_len _ _) hrl)
      simp [f__law_is_gate, e__law_is_gate, N__law_is_gate, runF, outD, slots0, eVar, eC, e1, e2, eNeg, eTst, eNot, eAnd, eOr, eNotV, eAndV, eOrV, eIf, eIsi, eNil, eCons, eCl, eTup, eLst, eAsL, eBor, eBorT, eNoO, eO, eSl, eStep, eZipL, eMt, eChain, eGetO, eIxO, eIL, eIT, eIS, eEnT, eR1, eListOf, eYes, eLc, eLc2, epNil, epD, eLen, eCall, evD, evL, evDisp, evNil, evCons, eNext, eBrk, eCnt, eSeq, eRet, eDrop, eIfS, eFrz, eAsg, ePar, eAsgG, eApp, eExt, ePop, eAug, eFor, unAll, frz, gtB, gtI, gtL, gtT, gtS, negD, asD, e0, isTup, isStr, ix0, sizes_get, len_t, nei, hz, k3]
      rw [k1 _ rfl, f1]
      simp [runF, outD, slots0, eVar, eC, e1, e2, eNeg, eTst, eNot, eAnd, eOr, eNotV, eAndV, eOrV, eIf, eIsi, eNil, eCons, eCl, eTup, eLst, eAsL, eBor, eBorT, eNoO, eO, eSl, eStep, eZipL, eMt, eChain, eGetO, eIxO, eIL, eIT, eIS, eEnT, eR1, eListOf, eYes, eLc, eLc2, epNil, epD, eLen, eCall, evD, evL, evDisp, evNil, evCons, eNext, eBrk, eCnt, eSeq, eRet, eDrop, eIfS, eFrz, eAsg, ePar, eAsgG, eApp, eExt, ePop, eAug, eFor, unAll, frz, gtB, gtI, gtL, gtT, gtS, negD, asD, nel0, k3]
      rw [k2 _ rfl]
      simp [k4, ones_eq, outD, all_filter]
    · have f1 : (rest.filter fun d => !wholeD d).isEmpty = false := by
        simp only [Classical.not_forall] at hwh
        obtain ⟨d, hd, hw⟩ := hwh
        cases e : rest.filter fun d => !wholeD d with
        | nil =>
          have := List.filter_eq_nil_iff.mp e d hd
          simp [hw] at this
        | cons => rfl
      have f2 : rest.all (inR (if w = "v" then m else g)) = false := by
        simp only [Classical.not_forall] at hwh
        obtain ⟨d, hd, hw⟩ := hwh
        rw [List.all_eq_false]
        refine ⟨d, hd, ?_⟩
        cases d <;> simp_all [wholeD, isInt, isBool, inR]
      have k4 : (rest.filter fun d => !wholeD d).length ≤ sizeLine := sm_lt (Nat.le_trans (filter_len _ _) hrl)
      simp [f__law_is_gate, e__law_is_gate, N__law_is_gate, runF, outD, slots0, eVar, eC, e1, e2, eNeg, eTst, eNot, eAnd, eOr, eNotV, eAndV, eOrV, eIf, eIsi, eNil, eCons, eCl, eTup, eLst, eAsL, eBor, eBorT, eNoO, eO, eSl, eStep, eZipL, eMt, eChain, eGetO, eIxO, eIL, eIT, eIS, eEnT, eR1, eListOf, eYes, eLc, eLc2, epNil, epD, eLen, eCall, evD, evL, evDisp, evNil, evCons, eNext, eBrk, eCnt, eSeq, eRet, eDrop, eIfS, eFrz, eAsg, ePar, eAsgG, eApp, eExt, ePop, eAug, eFor, unAll, frz, gtB, gtI, gtL, gtT, gtS, negD, asD, e0, isTup, isStr, ix0, sizes_get, len_t, nei, hz, k3]
      rw [k1 _ rfl]
      simp [runF, outD, slots0, eVar, eC, e1, e2, eNeg, eTst, eNot, eAnd, eOr, eNotV, eAndV, eOrV, eIf, eIsi, eNil, eCons, eCl, eTup, eLst, eAsL, eBor, eBorT, eNoO, eO, eSl, eStep, eZipL, eMt, eChain, eGetO, eIxO, eIL, eIT, eIS, eEnT, eR1, eListOf, eYes, eLc, eLc2, epNil, epD, eLen, eCall, evD, evL, evDisp, evNil, evCons, eNext, eBrk, eCnt, eSeq, eRet, eDrop, eIfS, eFrz, eAsg, ePar, eAsgG, eApp, eExt, ePop, eAug, eFor, unAll, frz, gtB, gtI, gtL, gtT, gtS, negD, asD, ones_ne, f1, f2, k4]
  · have hz2 : (sizeW w == (rest.length : Int) + 1) = false := by simpa using hz
    simp [f__law_is_gate, e__law_is_gate, N__law_is_gate, runF, outD, slots0, eVar, eC, e1, e2, eNeg, eTst, eNot, eAnd, eOr, eNotV, eAndV, eOrV, eIf, eIsi, eNil, eCons, eCl, eTup, eLst, eAsL, eBor, eBorT, eNoO, eO, eSl, eStep, eZipL, eMt, eChain, eGetO, eIxO, eIL, eIT, eIS, eEnT, eR1, eListOf, eYes, eLc, eLc2, epNil, epD, eLen, eCall, evD, evL, evDisp, evNil, evCons, eNext, eBrk, eCnt, eSeq, eRet, eDrop, eIfS, eFrz, eAsg, ePar, eAsgG, eApp, eExt, ePop, eAug, eFor, unAll, frz, gtB, gtI, gtL, gtT, gtS, negD, asD, e0, isTup, isStr, ix0, sizes_get, len_t, nei, hz, hz2]
theorem words6 (w : Str) : w = "yes" ∨ w = "v" ∨ w = "not" ∨ w = "and" ∨ w = "or" ∨ (w ≠ "yes" ∧ w ≠ "v" ∧ w ≠ "not" ∧ w ≠ "and" ∧ w ≠ "or") := by
  by_cases h4 : w = "and"
  · simp [h4]
  · by_cases h5 : w = "or"
    · simp [h5]
    · rcases words4 w with h | h | h | h
      · simp [h]
      · simp [h]
      · simp [h]
      · simp [h, h4, h5]
/-- the law's own look agrees -/
theorem x__law_is_gate (t : PyData) (m g : Int) (hs : sm t = true) : f__law_is_gate [.int m, .int g, t] = some (.bool (gateOk m g t)) := by
  cases t with
  | tuple xs =>
    cases xs with
    | nil => rfl
    | cons x rest =>
      have e0 := tup_ne hs
      cases x with
      | str w =>
        rw [lg w rest m g hs]
        congr 2
        match rest with
        | [] => rcases words6 w with rfl | rfl | rfl | rfl | rfl | ⟨h1, h2, h3, h4, h5⟩ <;> simp [sizeW, gateOk, ofS_inj, *]
        | [a] => rcases words6 w with rfl | rfl | rfl | rfl | rfl | ⟨h1, h2, h3, h4, h5⟩ <;> simp [sizeW, gateOk, ofS_inj, *]
        | [a, b] => rcases words6 w with rfl | rfl | rfl | rfl | rfl | ⟨h1, h2, h3, h4, h5⟩ <;> simp [sizeW, gateOk, ofS_inj, *]
        | a :: b :: c :: r =>
          have h1 : sizeW w ≤ 3 := by unfold sizeW; repeat' split <;> omega
          have h2 : decide (sizeW w = ((a :: b :: c :: r).length : Int) + 1) = false := by simp; omega
          rw [h2]; rfl
      | _ => simp [f__law_is_gate, e__law_is_gate, N__law_is_gate, runF, outD, slots0, eVar, eC, e1, e2, eNeg, eTst, eNot, eAnd, eOr, eNotV, eAndV, eOrV, eIf, eIsi, eNil, eCons, eCl, eTup, eLst, eAsL, eBor, eBorT, eNoO, eO, eSl, eStep, eZipL, eMt, eChain, eGetO, eIxO, eIL, eIT, eIS, eEnT, eR1, eListOf, eYes, eLc, eLc2, epNil, epD, eLen, eCall, evD, evL, evDisp, evNil, evCons, eNext, eBrk, eCnt, eSeq, eRet, eDrop, eIfS, eFrz, eAsg, ePar, eAsgG, eApp, eExt, ePop, eAug, eFor, unAll, frz, gtB, gtI, gtL, gtT, gtS, negD, asD, e0, isTup, isStr, ix0, gateOk]
  | _ => rfl
end K66
set_option maxRecDepth 100000
set_option maxHeartbeats 4000000
namespace K66
open PySem PySem.Spec L2 DL DR
def inSt (signs : Str) : PyData → Bool
  | .str c => match c.cps.toList with
    | [c] => decide (c ∈ signs.cps.toList)
    | _ => false
  | _ => false
theorem signs_all (p signs : Str) : (signsD p).all (inSt signs) = among p signs := by
  simp [signsD, List.all_map, Function.comp_def, among, inSt]
theorem x__law_is_circuit (t : PyData) (hs : sm t = true) : f__law_is_circuit [t] = some (.bool (circOk t)) := by
  cases t with
  | tuple xs =>
    obtain ⟨hl, hxs⟩ := sm_tup hs
    match xs with
    | [] => rfl
    | [_] => simp [f__law_is_circuit, e__law_is_circuit, N__law_is_circuit, runF, outD, slots0, eVar, eC, e1, e2, eNeg, eTst, eNot, eAnd, eOr, eNotV, eAndV, eOrV, eIf, eIsi, eNil, eCons, eCl, eTup, eLst, eAsL, eBor, eBorT, eNoO, eO, eSl, eStep, eZipL, eMt, eChain, eGetO, eIxO, eIL, eIT, eIS, eEnT, eR1, eListOf, eYes, eLc, eLc2, epNil, epD, eLen, eCall, evD, evL, evDisp, evNil, evCons, eNext, eBrk, eCnt, eSeq, eRet, eDrop, eIfS, eFrz, eAsg, ePar, eAsgG, eApp, eExt, ePop, eAug, eFor, unAll, frz, gtB, gtI, gtL, gtT, gtS, negD, asD, isTup, len_t, nei, circOk]
    | a :: b :: c :: r =>
      have k4 : ((r.length : Int) + 1 + 1 + 1 == 2) = false := by simp; omega
      simp [f__law_is_circuit, e__law_is_circuit, N__law_is_circuit, runF, outD, slots0, eVar, eC, e1, e2, eNeg, eTst, eNot, eAnd, eOr, eNotV, eAndV, eOrV, eIf, eIsi, eNil, eCons, eCl, eTup, eLst, eAsL, eBor, eBorT, eNoO, eO, eSl, eStep, eZipL, eMt, eChain, eGetO, eIxO, eIL, eIT, eIS, eEnT, eR1, eListOf, eYes, eLc, eLc2, epNil, epD, eLen, eCall, evD, evL, evDisp, evNil, evCons, eNext, eBrk, eCnt, eSeq, eRet, eDrop, eIfS, eFrz, eAsg, ePar, eAsgG, eApp, eExt, ePop, eAug, eFor, unAll, frz, gtB, gtI, gtL, gtT, gtS, negD, asD, isTup, len_t, nei, circOk, k4]
    | [a, b] =>
      obtain ⟨ha, hr⟩ := sms_cons hxs
      obtain ⟨hb, _⟩ := sms_cons hr
      cases a with
      | str p =>
        have hp := (sm_str ha).2
        cases b with
        | tuple gs =>
          obtain ⟨hgl, hg⟩ := sm_tup hb
          cases gs with
          | nil =>
            have : eqD (.tuple []) (.tuple []) = some (.bool true) := rfl
            simp [f__law_is_circuit, e__law_is_circuit, N__law_is_circuit, runF, outD, slots0, eVar, eC, e1, e2, eNeg, eTst, eNot, eAnd, eOr, eNotV, eAndV, eOrV, eIf, eIsi, eNil, eCons, eCl, eTup, eLst, eAsL, eBor, eBorT, eNoO, eO, eSl, eStep, eZipL, eMt, eChain, eGetO, eIxO, eIL, eIT, eIS, eEnT, eR1, eListOf, eYes, eLc, eLc2, epNil, epD, eLen, eCall, evD, evL, evDisp, evNil, evCons, eNext, eBrk, eCnt, eSeq, eRet, eDrop, eIfS, eFrz, eAsg, ePar, eAsgG, eApp, eExt, ePop, eAug, eFor, unAll, frz, gtB, gtI, gtL, gtT, gtS, negD, asD, isTup, isStr, len_t, nei, circOk, ix0, ix1, this]
          | cons g0 gs =>
            have k1 : ∀ σ : Env', σ = [Sl.d (.tuple [.str p, .tuple (g0 :: gs)]), .un, .un, .un] → lcF (fun d => gN 3 d σ) (eTst (e2 (inSg true) (eVar 3) (eC (.str "ea")))) (eC (.int 1)) (signsD p) = some (((signsD p).filter fun d => !inSt "ea" d).map fun _ => .int 1) := fun σ hσ => lcF_filt fun d hd => ⟨_, rfl, by
              obtain ⟨c, hc, rfl⟩ := List.mem_map.mp hd
              rw [hσ]; simp [runF, outD, slots0, eVar, eC, e1, e2, eNeg, eTst, eNot, eAnd, eOr, eNotV, eAndV, eOrV, eIf, eIsi, eNil, eCons, eCl, eTup, eLst, eAsL, eBor, eBorT, eNoO, eO, eSl, eStep, eZipL, eMt, eChain, eGetO, eIxO, eIL, eIT, eIS, eEnT, eR1, eListOf, eYes, eLc, eLc2, epNil, epD, eLen, eCall, evD, evL, evDisp, evNil, evCons, eNext, eBrk, eCnt, eSeq, eRet, eDrop, eIfS, eFrz, eAsg, ePar, eAsgG, eApp, eExt, ePop, eAug, eFor, gN, gNs, gC, gT, unAll, frz, gtB, gtI, gtL, gtT, gtS, negD, asD, inSg, inSt], fun _ => rfl⟩
            have k2 : ∀ σ : Env', σ = [Sl.d (.tuple [.str p, .tuple (g0 :: gs)]), .un, .un, .un] → lcF (fun d => gT 2 (gC (gN 1) (gC (gN 2) gNs)) d σ) (eNot (eTst (eCall f__law_is_gate (eLen 3 (epD (eCl lenD (eCons (e2 ixD (eVar 0) (eC (.int 0))) eNil)) (epD (eVar 1) (epD (eVar 2) epNil))))))) (eC (.int 1)) (enumD (g0 :: gs)) = some (((enumD (g0 :: gs)).filter fun d => !sndP (fun n g => gateOk p.length n g) d).map fun _ => .int 1) := fun σ hσ => lcF_filt fun d hd => by
              obtain ⟨n, g, rfl, hm⟩ := enum_mem hd
              have hsg := sms_mem hg (zipIdx_mem hm)
              refine ⟨[Sl.d (.tuple [.str p, .tuple (g0 :: gs)]), .d (.int n), .d g, .un], by rw [hσ]; simp [runF, outD, slots0, eVar, eC, e1, e2, eNeg, eTst, eNot, eAnd, eOr, eNotV, eAndV, eOrV, eIf, eIsi, eNil, eCons, eCl, eTup, eLst, eAsL, eBor, eBorT, eNoO, eO, eSl, eStep, eZipL, eMt, eChain, eGetO, eIxO, eIL, eIT, eIS, eEnT, eR1, eListOf, eYes, eLc, eLc2, epNil, epD, eLen, eCall, evD, evL, evDisp, evNil, evCons, eNext, eBrk, eCnt, eSeq, eRet, eDrop, eIfS, eFrz, eAsg, ePar, eAsgG, eApp, eExt, ePop, eAug, eFor, gN, gNs, gC, gT, unAll, frz, gtB, gtI, gtL, gtT, gtS, negD, asD], ?_, fun _ => rfl⟩
              simp [runF, outD, slots0, eVar, eC, e1, e2, eNeg, eTst, eNot, eAnd, eOr, eNotV, eAndV, eOrV, eIf, eIsi, eNil, eCons, eCl, eTup, eLst, eAsL, eBor, eBorT, eNoO, eO, eSl, eStep, eZipL, eMt, eChain, eGetO, eIxO, eIL, eIT, eIS, eEnT, eR1, eListOf, eYes, eLc, eLc2, epNil, epD, eLen, eCall, evD, evL, evDisp, evNil, evCons, eNext, eBrk, eCnt, eSeq, eRet, eDrop, eIfS, eFrz, eAsg, ePar, eAsgG, eApp, eExt, ePop, eAug, eFor, gN, gNs, gC, gT, unAll, frz, gtB, gtI, gtL, gtT, gtS, negD, asD, ix0, len_s hp, x__law_is_gate _ _ _ hsg, sndP]
            have k3 : ((enumD (g0 :: gs)).filter fun d => !sndP (fun n g => gateOk p.length n g) d).length ≤ sizeLine := sm_lt (Nat.le_trans (filter_len _ _) (by rw [enum_len]; exact hgl))
            have k4 : ((signsD p).filter fun d => !inSt "ea" d).length ≤ sizeLine := sm_lt (Nat.le_trans (filter_len _ _) (by simp [signsD]; exact hp))
            have k5 := enum_fold p.length (g0 :: gs)
            simp [f__law_is_circuit, e__law_is_circuit, N__law_is_circuit, runF, outD, slots0, eVar, eC, e1, e2, eNeg, eTst, eNot, eAnd, eOr, eNotV, eAndV, eOrV, eIf, eIsi, eNil, eCons, eCl, eTup, eLst, eAsL, eBor, eBorT, eNoO, eO, eSl, eStep, eZipL, eMt, eChain, eGetO, eIxO, eIL, eIT, eIS, eEnT, eR1, eListOf, eYes, eLc, eLc2, epNil, epD, eLen, eCall, evD, evL, evDisp, evNil, evCons, eNext, eBrk, eCnt, eSeq, eRet, eDrop, eIfS, eFrz, eAsg, ePar, eAsgG, eApp, eExt, ePop, eAug, eFor, unAll, frz, gtB, gtI, gtL, gtT, gtS, negD, asD, isTup, isStr, len_t, nei, circOk, ix0, ix1, tup_ne hb]
            rw [k1 _ rfl]
            simp [k4, ones_ne, all_filter, signs_all]
            by_cases hw : among p "ea" = true
            · simp [hw, runF, outD, slots0, eVar, eC, e1, e2, eNeg, eTst, eNot, eAnd, eOr, eNotV, eAndV, eOrV, eIf, eIsi, eNil, eCons, eCl, eTup, eLst, eAsL, eBor, eBorT, eNoO, eO, eSl, eStep, eZipL, eMt, eChain, eGetO, eIxO, eIL, eIT, eIS, eEnT, eR1, eListOf, eYes, eLc, eLc2, epNil, epD, eLen, eCall, evD, evL, evDisp, evNil, evCons, eNext, eBrk, eCnt, eSeq, eRet, eDrop, eIfS, eFrz, eAsg, ePar, eAsgG, eApp, eExt, ePop, eAug, eFor, unAll, frz, gtB, gtI, gtL, gtT, gtS, negD, asD, ix1]
              rw [k2 _ rfl]
              simp [k3, ones_eq, all_filter, k5, outD]
            · simp only [Bool.not_eq_true] at hw
              simp [hw, runF, outD, slots0, eVar, eC, e1, e2, eNeg, eTst, eNot, eAnd, eOr, eNotV, eAndV, eOrV, eIf, eIsi, eNil, eCons, eCl, eTup, eLst, eAsL, eBor, eBorT, eNoO, eO, eSl, eStep, eZipL, eMt, eChain, eGetO, eIxO, eIL, eIT, eIS, eEnT, eR1, eListOf, eYes, eLc, eLc2, epNil, epD, eLen, eCall, evD, evL, evDisp, evNil, evCons, eNext, eBrk, eCnt, eSeq, eRet, eDrop, eIfS, eFrz, eAsg, ePar, eAsgG, eApp, eExt, ePop, eAug, eFor, unAll, frz, gtB, gtI, gtL, gtT, gtS, negD, asD]
        | _ => simp [f__law_is_circuit, e__law_is_circuit, N__law_is_circuit, runF, outD, slots0, eVar, eC, e1, e2, eNeg, eTst, eNot, eAnd, eOr, eNotV, eAndV, eOrV, eIf, eIsi, eNil, eCons, eCl, eTup, eLst, eAsL, eBor, eBorT, eNoO, eO, eSl, eStep, eZipL, eMt, eChain, eGetO, eIxO, eIL, eIT, eIS, eEnT, eR1, eListOf, eYes, eLc, eLc2, epNil, epD, eLen, eCall, evD, evL, evDisp, evNil, evCons, eNext, eBrk, eCnt, eSeq, eRet, eDrop, eIfS, eFrz, eAsg, ePar, eAsgG, eApp, eExt, ePop, eAug, eFor, unAll, frz, gtB, gtI, gtL, gtT, gtS, negD, asD, isTup, isStr, len_t, nei, circOk, ix0, ix1]
      | _ => simp [f__law_is_circuit, e__law_is_circuit, N__law_is_circuit, runF, outD, slots0, eVar, eC, e1, e2, eNeg, eTst, eNot, eAnd, eOr, eNotV, eAndV, eOrV, eIf, eIsi, eNil, eCons, eCl, eTup, eLst, eAsL, eBor, eBorT, eNoO, eO, eSl, eStep, eZipL, eMt, eChain, eGetO, eIxO, eIL, eIT, eIS, eEnT, eR1, eListOf, eYes, eLc, eLc2, epNil, epD, eLen, eCall, evD, evL, evDisp, evNil, evCons, eNext, eBrk, eCnt, eSeq, eRet, eDrop, eIfS, eFrz, eAsg, ePar, eAsgG, eApp, eExt, ePop, eAug, eFor, unAll, frz, gtB, gtI, gtL, gtT, gtS, negD, asD, isTup, isStr, len_t, nei, circOk, ix0]
  | _ => rfl
end K66
set_option maxRecDepth 100000
set_option maxHeartbeats 4000000
namespace K66
open PySem PySem.Spec L2 DL DR
/-- a filling told by truths -/
def fs (l : List Bool) : Str := ⟨(l.map fun b => if b = true then 116 else 102).toArray⟩
theorem fs_len (l : List Bool) : (fs l).length = l.length := by simp [fs, Str.length]
theorem fs_cps (l : List Bool) : (fs l).cps.toList = l.map fun b => if b = true then 116 else 102 := by simp [fs]
theorem fs_ok (l : List Bool) : PyData.strOk (fs l) = true := by
  simp [PyData.strOk, fs]
theorem fs_t (b : Bool) : eqD (.str (fs [b])) (.str "t") = some (.bool b) := by
  rw [eqs (fs_ok _) (by decide +kernel)]
  have h1 : (fs [false] == ("t" : Str)) = false := by decide +kernel
  have h2 : (fs [true] == ("t" : Str)) = true := by decide +kernel
  cases b
  · rw [h1]
  · rw [h2]
theorem fs_add (l k : List Bool) : fs l ++ fs k = fs (l ++ k) := by
  show (⟨(fs l).cps ++ (fs k).cps⟩ : Str) = _
  simp [fs]
theorem fs_f : ("f" : Str) = fs [false] := by decide +kernel
theorem fs_tt : ("t" : Str) = fs [true] := by decide +kernel
theorem fs_nil : ("" : Str) = fs [] := by decide +kernel
theorem line64 {n : Nat} (h : n ≤ 64) : n ≤ sizeLine := Nat.le_trans h (by decide)
theorem ix_fs {l : List Bool} {k : Nat} (h : k < l.length) (hl : l.length ≤ 64) : ixD (.str (fs l)) (.int k) = some (.str (fs [l.getD k false])) := by
  have h1 : (fs l).length ≤ sizeLine := by rw [fs_len]; exact line64 hl
  have h2 : k < (fs l).cps.toList.length := by rw [fs_cps]; simpa using h
  simp only [ixD, if_pos h1]
  rw [atI_nat h2, fs_cps]
  simp [h, fs]
theorem ix_bs {l : List Bool} {k : Nat} (h : k < l.length) : ixD (.list (l.map .bool)) (.int k) = some (.bool (l.getD k false)) := by
  have h2 : k < (l.map PyData.bool).length := by simpa using h
  simp only [ixD]
  rw [atI_nat h2]
  simp [h]
theorem at_bs {l : List Bool} {k : Nat} (h : k < l.length) : atI (l.map PyData.bool) k = some (.bool (l.getD k false)) := ix_bs h
inductive Gt (m g : Nat) : PyData → Prop where
  | yes : Gt m g (.tuple [.str "yes"])
  | v (k : Nat) (h : k < m) : Gt m g (.tuple [.str "v", .int k])
  | no (k : Nat) (h : k < g) : Gt m g (.tuple [.str "not", .int k])
  | an (k l : Nat) (h : k < g) (h' : l < g) : Gt m g (.tuple [.str "and", .int k, .int l])
  | o (k l : Nat) (h : k < g) (h' : l < g) : Gt m g (.tuple [.str "or", .int k, .int l])
theorem inR_is {m : Nat} {d : PyData} (h : inR m d = true) : ∃ k : Nat, d = .int k ∧ k < m := by
  cases d with
  | int i =>
    simp [inR] at h
    refine ⟨i.toNat, ?_, by omega⟩
    congr 1; omega
  | _ => simp [inR] at h
theorem gt_of {m g : Nat} {t : PyData} (h : gateOk m g t = true) : Gt m g t := by
  unfold gateOk at h
  split at h
  · rename_i w
    have : w = "yes" := by simpa using h
    rw [this]; exact .yes
  · rename_i w x
    split at h
    · rename_i hw
      obtain ⟨k, rfl, hk⟩ := inR_is h
      rw [hw]; exact .v k hk
    · simp only [Bool.and_eq_true, beq_iff_eq] at h
      obtain ⟨k, rfl, hk⟩ := inR_is h.2
      rw [h.1]; exact .no k hk
  · rename_i w x y
    simp only [Bool.and_eq_true, Bool.or_eq_true, beq_iff_eq] at h
    obtain ⟨k, rfl, hk⟩ := inR_is h.2.1
    obtain ⟨l, rfl, hl⟩ := inR_is h.2.2
    rcases h.1 with e | e
    · rw [e]; exact .an k l hk hl
    · rw [e]; exact .o k l hk hl
  · cases h
def gval (acc fl : List Bool) : PyData → Bool
  | .tuple [.str w, .int i] => if w = "v" then fl.getD i.toNat false else !acc.getD i.toNat false
  | .tuple [.str w, .int i, .int j] => if w = "and" then acc.getD i.toNat false && acc.getD j.toNat false else acc.getD i.toNat false || acc.getD j.toNat false
  | _ => true
theorem eql2 {a b : String} (ha : PyData.strOk (Str.ofString a) = true) (hb : PyData.strOk (Str.ofString b) = true) : eqD (.str (Str.ofString a)) (.str (Str.ofString b)) = some (.bool (decide (a = b))) := by
  rw [eqs ha hb]
  congr 2
  by_cases h : a = b
  · simp [h]
  · have : ¬ Str.ofString a = Str.ofString b := fun e => h (ofS_inj.mp e)
    simp [h, this]
theorem ok_yes : PyData.strOk "yes" = true := by decide +kernel
theorem ok_v : PyData.strOk "v" = true := by decide +kernel
theorem ok_not : PyData.strOk "not" = true := by decide +kernel
theorem ok_and : PyData.strOk "and" = true := by decide +kernel
theorem ok_or : PyData.strOk "or" = true := by decide +kernel
theorem x_gate_value {m : Nat} {t : PyData} {acc fl : List Bool} (h : Gt m acc.length t) (hf : fl.length = m) (hm : m ≤ 64) : f_gate_value [t, .list (acc.map .bool), .str (fs fl)] = some (.bool (gval acc fl t)) := by
  subst hf
  cases h with
  | yes => simp [f_gate_value, e_gate_value, N_gate_value, runF, outD, slots0, eVar, eC, e1, e2, eNeg, eTst, eNot, eAnd, eOr, eNotV, eAndV, eOrV, eIf, eIsi, eNil, eCons, eCl, eTup, eLst, eAsL, eBor, eBorT, eNoO, eO, eSl, eStep, eZipL, eMt, eChain, eGetO, eIxO, eIL, eIT, eIS, eEnT, eR1, eListOf, eYes, eLc, eLc2, epNil, epD, eLen, eCall, evD, evL, evDisp, evNil, evCons, eNext, eBrk, eCnt, eSeq, eRet, eDrop, eIfS, eFrz, eAsg, ePar, eAsgG, eApp, eExt, ePop, eAug, eFor, unAll, frz, gtB, gtI, gtL, gtT, gtS, negD, asD, ix0, eql2, ok_yes, gval]
  | v k h => simp [f_gate_value, e_gate_value, N_gate_value, runF, outD, slots0, eVar, eC, e1, e2, eNeg, eTst, eNot, eAnd, eOr, eNotV, eAndV, eOrV, eIf, eIsi, eNil, eCons, eCl, eTup, eLst, eAsL, eBor, eBorT, eNoO, eO, eSl, eStep, eZipL, eMt, eChain, eGetO, eIxO, eIL, eIT, eIS, eEnT, eR1, eListOf, eYes, eLc, eLc2, epNil, epD, eLen, eCall, evD, evL, evDisp, evNil, evCons, eNext, eBrk, eCnt, eSeq, eRet, eDrop, eIfS, eFrz, eAsg, ePar, eAsgG, eApp, eExt, ePop, eAug, eFor, unAll, frz, gtB, gtI, gtL, gtT, gtS, negD, asD, ix0, ix1, eql2, ok_yes, ok_v, gval, ix_fs h hm, fs_t]
  | no k h => simp [f_gate_value, e_gate_value, N_gate_value, runF, outD, slots0, eVar, eC, e1, e2, eNeg, eTst, eNot, eAnd, eOr, eNotV, eAndV, eOrV, eIf, eIsi, eNil, eCons, eCl, eTup, eLst, eAsL, eBor, eBorT, eNoO, eO, eSl, eStep, eZipL, eMt, eChain, eGetO, eIxO, eIL, eIT, eIS, eEnT, eR1, eListOf, eYes, eLc, eLc2, epNil, epD, eLen, eCall, evD, evL, evDisp, evNil, evCons, eNext, eBrk, eCnt, eSeq, eRet, eDrop, eIfS, eFrz, eAsg, ePar, eAsgG, eApp, eExt, ePop, eAug, eFor, unAll, frz, gtB, gtI, gtL, gtT, gtS, negD, asD, ix0, ix1, eql2, ok_yes, ok_v, ok_not, gval, ix_bs h, ofS_inj]
  | an k l h h' =>
    cases e : acc.getD k false <;> simp [f_gate_value, e_gate_value, N_gate_value, runF, outD, slots0, eVar, eC, e1, e2, eNeg, eTst, eNot, eAnd, eOr, eNotV, eAndV, eOrV, eIf, eIsi, eNil, eCons, eCl, eTup, eLst, eAsL, eBor, eBorT, eNoO, eO, eSl, eStep, eZipL, eMt, eChain, eGetO, eIxO, eIL, eIT, eIS, eEnT, eR1, eListOf, eYes, eLc, eLc2, epNil, epD, eLen, eCall, evD, evL, evDisp, evNil, evCons, eNext, eBrk, eCnt, eSeq, eRet, eDrop, eIfS, eFrz, eAsg, ePar, eAsgG, eApp, eExt, ePop, eAug, eFor, unAll, frz, gtB, gtI, gtL, gtT, gtS, negD, asD, ix0, ix1, ix2, eql2, ok_yes, ok_v, ok_not, ok_and, gval, ix_bs h, ix_bs h', ofS_inj, e] <;> simp_all [outD]
  | o k l h h' =>
    cases e : acc.getD k false <;> simp [f_gate_value, e_gate_value, N_gate_value, runF, outD, slots0, eVar, eC, e1, e2, eNeg, eTst, eNot, eAnd, eOr, eNotV, eAndV, eOrV, eIf, eIsi, eNil, eCons, eCl, eTup, eLst, eAsL, eBor, eBorT, eNoO, eO, eSl, eStep, eZipL, eMt, eChain, eGetO, eIxO, eIL, eIT, eIS, eEnT, eR1, eListOf, eYes, eLc, eLc2, epNil, epD, eLen, eCall, evD, evL, evDisp, evNil, evCons, eNext, eBrk, eCnt, eSeq, eRet, eDrop, eIfS, eFrz, eAsg, ePar, eAsgG, eApp, eExt, ePop, eAug, eFor, unAll, frz, gtB, gtI, gtL, gtT, gtS, negD, asD, ix0, ix1, ix2, eql2, ok_yes, ok_v, ok_not, ok_and, ok_or, gval, ix_bs h, ix_bs h', ofS_inj, e] <;> simp_all [outD]
/-- the values of the gates, one behind the other -/
def vals (fl : List Bool) : List PyData → List Bool → List Bool
  | [], acc => acc
  | g :: gs, acc => vals fl gs (acc ++ [gval acc fl g])
theorem vals_len (fl : List Bool) : ∀ (gs : List PyData) (acc : List Bool), (vals fl gs acc).length = acc.length + gs.length
  | [], acc => rfl
  | g :: gs, acc => by rw [vals, vals_len]; simp; omega
theorem gatesOk_cons {m : Int} {d : PyData} {ds : List PyData} {n : Nat} (h : gatesOk m (d :: ds) n = true) : gateOk m n d = true ∧ gatesOk m ds (n + 1) = true := by
  simpa [gatesOk] using h
theorem x_values_for {m : Nat} {gs : List PyData} {fl : List Bool} (hg : gatesOk m gs 0 = true) (hf : fl.length = m) (hm : m ≤ 64) (hn : gs.length ≤ 64) : f_values_for [.tuple gs, .str (fs fl)] = some (.list ((vals fl gs []).map .bool)) := by
  have go : ∀ (ds : List PyData) (acc : List Bool) (s : Sl), gatesOk m ds acc.length = true → acc.length + ds.length ≤ 64 → ∃ s', forF (gN 3) (eApp 2 (eBor 2 (eCall f_gate_value (eLen 3 (epD (eVar 3) (epD (eVar 2) (epD (eVar 1) epNil))))))) ds [Sl.d (.tuple gs), .d (.str (fs fl)), .l (acc.map .bool), s] = some (.nx [Sl.d (.tuple gs), .d (.str (fs fl)), .l ((vals fl ds acc).map .bool), s']) := by
    intro ds
    induction ds with
    | nil => intro acc s _ _; exact ⟨s, rfl⟩
    | cons d ds ih =>
      intro acc s h1 h2
      obtain ⟨h3, h4⟩ := gatesOk_cons h1
      have h5 := x_gate_value (gt_of h3) hf hm
      simp only [List.length_cons] at h2
      obtain ⟨s', h6⟩ := ih (acc ++ [gval acc fl d]) (.d d) (by simpa using h4) (by simp; omega)
      refine ⟨s', ?_⟩
      have h7 : acc.length < sizeLine := Nat.lt_of_lt_of_le (show acc.length < 64 by omega) (by decide)
      simp [forF, runF, outD, slots0, eVar, eC, e1, e2, eNeg, eTst, eNot, eAnd, eOr, eNotV, eAndV, eOrV, eIf, eIsi, eNil, eCons, eCl, eTup, eLst, eAsL, eBor, eBorT, eNoO, eO, eSl, eStep, eZipL, eMt, eChain, eGetO, eIxO, eIL, eIT, eIS, eEnT, eR1, eListOf, eYes, eLc, eLc2, epNil, epD, eLen, eCall, evD, evL, evDisp, evNil, evCons, eNext, eBrk, eCnt, eSeq, eRet, eDrop, eIfS, eFrz, eAsg, ePar, eAsgG, eApp, eExt, ePop, eAug, eFor, gN, gNs, gC, gT, unAll, frz, gtB, gtI, gtL, gtT, gtS, negD, asD, h5, noL, h7]
      simpa [vals] using h6
  obtain ⟨s', h6⟩ := go gs [] .un hg (by simpa using hn)
  have e : gatesOk m gs 0 = true := hg
  simp [f_values_for, e_values_for, N_values_for, runF, outD, slots0, eVar, eC, e1, e2, eNeg, eTst, eNot, eAnd, eOr, eNotV, eAndV, eOrV, eIf, eIsi, eNil, eCons, eCl, eTup, eLst, eAsL, eBor, eBorT, eNoO, eO, eSl, eStep, eZipL, eMt, eChain, eGetO, eIxO, eIL, eIT, eIS, eEnT, eR1, eListOf, eYes, eLc, eLc2, epNil, epD, eLen, eCall, evD, evL, evDisp, evNil, evCons, eNext, eBrk, eCnt, eSeq, eRet, eDrop, eIfS, eFrz, eAsg, ePar, eAsgG, eApp, eExt, ePop, eAug, eFor, unAll, frz, gtB, gtI, gtL, gtT, gtS, negD, asD]
  simp [runF, outD, slots0, eVar, eC, e1, e2, eNeg, eTst, eNot, eAnd, eOr, eNotV, eAndV, eOrV, eIf, eIsi, eNil, eCons, eCl, eTup, eLst, eAsL, eBor, eBorT, eNoO, eO, eSl, eStep, eZipL, eMt, eChain, eGetO, eIxO, eIL, eIT, eIS, eEnT, eR1, eListOf, eYes, eLc, eLc2, epNil, epD, eLen, eCall, evD, evL, evDisp, evNil, evCons, eNext, eBrk, eCnt, eSeq, eRet, eDrop, eIfS, eFrz, eAsg, ePar, eAsgG, eApp, eExt, ePop, eAug, eFor, unAll, frz, gtB, gtI, gtL, gtT, gtS, negD, asD] at h6
  rw [h6]
  simp [runF, outD, slots0, eVar, eC, e1, e2, eNeg, eTst, eNot, eAnd, eOr, eNotV, eAndV, eOrV, eIf, eIsi, eNil, eCons, eCl, eTup, eLst, eAsL, eBor, eBorT, eNoO, eO, eSl, eStep, eZipL, eMt, eChain, eGetO, eIxO, eIL, eIT, eIS, eEnT, eR1, eListOf, eYes, eLc, eLc2, epNil, epD, eLen, eCall, evD, evL, evDisp, evNil, evCons, eNext, eBrk, eCnt, eSeq, eRet, eDrop, eIfS, eFrz, eAsg, ePar, eAsgG, eApp, eExt, ePop, eAug, eFor, unAll, frz, gtB, gtI, gtL, gtT, gtS, negD, asD]
end K66
set_option maxRecDepth 100000
set_option maxHeartbeats 4000000
namespace K66
open PySem PySem.Spec L2 DL DR
/-- a beginning told by truths: any one, all -/
def es (l : List Bool) : Str := ⟨(l.map fun b => if b = true then 101 else 97).toArray⟩
theorem es_len (l : List Bool) : (es l).length = l.length := by simp [es, Str.length]
theorem es_cps (l : List Bool) : (es l).cps.toList = l.map fun b => if b = true then 101 else 97 := by simp [es]
theorem es_ok (l : List Bool) : PyData.strOk (es l) = true := by
  simp [PyData.strOk, es]
theorem es_e (b : Bool) : eqD (.str (es [b])) (.str "e") = some (.bool b) := by
  rw [eqs (es_ok _) (by decide +kernel)]
  have h1 : (es [false] == ("e" : Str)) = false := by decide +kernel
  have h2 : (es [true] == ("e" : Str)) = true := by decide +kernel
  cases b
  · rw [h1]
  · rw [h2]
theorem ix_es {l : List Bool} {k : Nat} (h : k < l.length) (hl : l.length ≤ 64) : ixD (.str (es l)) (.int k) = some (.str (es [l.getD k false])) := by
  have h1 : (es l).length ≤ sizeLine := by rw [es_len]; exact line64 hl
  have h2 : k < (es l).cps.toList.length := by rw [es_cps]; simpa using h
  simp only [ixD, if_pos h1]
  rw [atI_nat h2, es_cps]
  simp [h, es]
theorem es_of {p : Str} (h : among p "ea" = true) : ∃ l, p = es l := by
  obtain ⟨cs⟩ := p
  have ea : ("ea" : Str).cps.toList = [101, 97] := by decide +kernel
  simp only [among, ea] at h
  have : ∀ ns : List Nat, (ns.all fun c => decide (c ∈ [101, 97])) = true → ∃ l : List Bool, ns = l.map fun b => if b = true then 101 else 97 := by
    intro ns
    induction ns with
    | nil => intro _; exact ⟨[], rfl⟩
    | cons n ns ih =>
      intro h
      simp only [List.all_cons, Bool.and_eq_true, decide_eq_true_eq] at h
      have h1 := h.1
      obtain ⟨l, rfl⟩ := ih h.2
      simp at h1
      rcases h1 with rfl | rfl
      · exact ⟨true :: l, rfl⟩
      · exact ⟨false :: l, rfl⟩
  obtain ⟨l, hl⟩ := this _ h
  refine ⟨l, ?_⟩
  show (⟨cs⟩ : Str) = ⟨_⟩
  congr 1
  exact Array.toList_inj.mp (by simpa using hl)
theorem es_among (l : List Bool) : among (es l) "ea" = true := by
  have ea : ("ea" : Str).cps.toList = [101, 97] := by decide +kernel
  simp only [among, ea, es_cps, List.all_map]
  rw [List.all_eq_true]
  intro b _
  cases b <;> rfl
/-- the value behind a filling -/
def tv (G : List Bool → Bool) : List Bool → List Bool → Bool
  | [], fl => G fl
  | b :: q, fl => if b = true then tv G q (fl ++ [false]) || tv G q (fl ++ [true]) else tv G q (fl ++ [false]) && tv G q (fl ++ [true])
/-- the last value -/
def gv (gs : List PyData) (fl : List Bool) : Bool := (vals fl gs []).getLast?.getD false
theorem last_bs {l : List Bool} (h : l ≠ []) : (l.map PyData.bool).getLast? = some (.bool (l.getLast?.getD false)) := by
  rw [List.getLast?_map, List.getLast?_eq_some_getLast h]; rfl
theorem vals_ne {gs : List PyData} (h : gs ≠ []) (fl : List Bool) : vals fl gs [] ≠ [] := by
  intro e
  have := vals_len fl gs []
  rw [e] at this
  simp at this
  exact h (List.length_eq_zero_iff.mp this.symm)
theorem ft_signs : signsD "ft" = [.str (fs [false]), .str (fs [true])] := by
  have : ("ft" : Str) = fs [false, true] := by decide +kernel
  rw [this]; simp [signsD, fs]
theorem add_fs {a b : List Bool} (h : a.length + b.length ≤ 64) : addD (.str (fs a)) (.str (fs b)) = some (.str (fs (a ++ b))) := by
  simp only [addD, fs_len, fs_add]
  rw [if_pos (line64 h)]
theorem any2 (x y : Bool) : anyD [.list [.bool x, .bool y]] = some (.bool (x || y)) := by simp [foldBl, blsOf]
theorem all2 (x y : Bool) : allD [.list [.bool x, .bool y]] = some (.bool (x && y)) := by simp [foldBl, blsOf]
theorem len_fs {l : List Bool} (h : l.length ≤ 64) : lenD [.str (fs l)] = some (.int l.length) := by simp [lenD, fs_len, line64 h]
theorem len_es {l : List Bool} (h : l.length ≤ 64) : lenD [.str (es l)] = some (.int l.length) := by simp [lenD, es_len, line64 h]
theorem x_value_from {gs : List PyData} (hn : gs.length ≤ 64) (h0 : gs ≠ []) (j : Nat) : ∀ (q pre fl : List Bool), pre.length = fl.length → (pre ++ q).length ≤ 64 → gatesOk ((pre ++ q).length : Nat) gs 0 = true → f_value_from (j + q.length + 1) [.tuple [.str (es (pre ++ q)), .tuple gs], .str (fs fl)] = some (.bool (tv (gv gs) q fl)) := by
  intro q
  induction q with
  | nil =>
    intro pre fl h1 h2 h3
    simp only [List.append_nil] at h2 h3 ⊢
    have h4 := x_values_for (m := pre.length) h3 h1.symm h2 hn
    have h5 : fl.length ≤ 64 := by omega
    show runF 2 N_value_from (e_value_from (f_value_from (j + 0)) f_values_for) _ = _
    simp [e_value_from, N_value_from, runF, outD, slots0, eVar, eC, e1, e2, eNeg, eTst, eNot, eAnd, eOr, eNotV, eAndV, eOrV, eIf, eIsi, eNil, eCons, eCl, eTup, eLst, eAsL, eBor, eBorT, eNoO, eO, eSl, eStep, eZipL, eMt, eChain, eGetO, eIxO, eIL, eIT, eIS, eEnT, eR1, eListOf, eYes, eLc, eLc2, epNil, epD, eLen, eCall, evD, evL, evDisp, evNil, evCons, eNext, eBrk, eCnt, eSeq, eRet, eDrop, eIfS, eFrz, eAsg, ePar, eAsgG, eApp, eExt, ePop, eAug, eFor, gN, gNs, gC, gT, unAll, frz, gtB, gtI, gtL, gtT, gtS, negD, asD, len_fs h5, len_es h2, eqi, h1, h4, ixD, at_last, last_bs (vals_ne h0 fl), tv, gv]
  | cons b q ih =>
    intro pre fl h1 h2 h3
    have h5 : fl.length ≤ 64 := by simp at h2; omega
    have d1 : pre ++ b :: q = (pre ++ [b]) ++ q := by simp
    have ih1 := fun c => ih (pre ++ [b]) (fl ++ [c]) (by simp [h1]) (by simpa using h2) (by rw [← d1]; exact h3)
    rw [← d1] at ih1
    have h6 : ((fl.length : Int) == ((pre ++ b :: q).length : Nat)) = false := by simp [h1]; omega
    have h7 : fl.length + 1 ≤ 64 := by simp at h2; omega
    have h8 := fun c : Bool => add_fs (a := fl) (b := [c]) (by simpa using h7)
    have h9 : (2 : Nat) ≤ sizeLine := by decide
    have h10 := ix_es (l := pre ++ b :: q) (k := fl.length) (by simp; omega) h2
    have h11 : (pre ++ b :: q).getD fl.length false = b := by rw [← h1]; simp
    rw [h11] at h10
    show runF 2 N_value_from (e_value_from (f_value_from (j + q.length + 1)) f_values_for) _ = _
    have h12 : ¬ ((fl.length : Int) = (pre.length : Int) + ((q.length : Int) + 1)) := by omega
    cases b <;> simp [e_value_from, N_value_from, runF, outD, slots0, eVar, eC, e1, e2, eNeg, eTst, eNot, eAnd, eOr, eNotV, eAndV, eOrV, eIf, eIsi, eNil, eCons, eCl, eTup, eLst, eAsL, eBor, eBorT, eNoO, eO, eSl, eStep, eZipL, eMt, eChain, eGetO, eIxO, eIL, eIT, eIS, eEnT, eR1, eListOf, eYes, eLc, eLc2, epNil, epD, eLen, eCall, evD, evL, evDisp, evNil, evCons, eNext, eBrk, eCnt, eSeq, eRet, eDrop, eIfS, eFrz, eAsg, ePar, eAsgG, eApp, eExt, ePop, eAug, eFor, gN, gNs, gC, gT, unAll, frz, gtB, gtI, gtL, gtT, gtS, negD, asD, len_fs h5, len_es h2, eqi, h12, ft_signs, lcF, h8, ih1, h9, h10, es_e, any2, all2, tv]
end K66
set_option maxRecDepth 100000
set_option maxHeartbeats 4000000
namespace K66
open PySem PySem.Spec L2 DL DR
/-- all fillings, one letter longer -/
def longer (X : List (List Bool)) : List (List Bool) := X.flatMap fun x => [x ++ [false], x ++ [true]]
def exts : Nat → List (List Bool)
  | 0 => [[]]
  | n + 1 => longer (exts n)
def fsD (X : List (List Bool)) : List PyData := X.map fun x => .str (fs x)
theorem longer_len (X : List (List Bool)) : (longer X).length = 2 * X.length := by
  induction X with
  | nil => rfl
  | cons x X ih => simp [longer] at ih ⊢; omega
theorem exts_len : ∀ n, (exts n).length = 2 ^ n
  | 0 => rfl
  | n + 1 => by rw [exts, longer_len, exts_len n, Nat.pow_succ]; omega
theorem exts_mem : ∀ {n x}, x ∈ exts n → x.length = n
  | 0, x, h => by simp [exts] at h; rw [h]; rfl
  | n + 1, x, h => by
    simp only [exts, longer, List.mem_flatMap] at h
    obtain ⟨y, hy, h⟩ := h
    have := exts_mem hy
    simp at h
    rcases h with rfl | rfl <;> simp [this]
theorem fsD_len (X : List (List Bool)) : (fsD X).length = X.length := by simp [fsD]
theorem range_rec (lo : Int) (n : Nat) : rangeD lo (n + 1) = rangeD lo n ++ [.int (lo + n)] := by
  simp [rangeD, List.range_succ]
theorem forF_app {g : PyData → Env' → Option Env'} {b : Env' → Option Out} : ∀ (ds es : List PyData) (ρ : Env') {ρ2 : Env'}, forF g b ds ρ = some (.nx ρ2) → (∀ d ∈ ds, ∀ ρ ρ3 o, g d ρ = some ρ3 → b ρ3 = some o → ∃ ρ4, o = .nx ρ4) → forF g b (ds ++ es) ρ = forF g b es ρ2
  | [], es, ρ, ρ2, h, _ => by cases h; rfl
  | d :: ds, es, ρ, ρ2, h, k => by
    obtain ⟨ρ', e1, h⟩ := Option.bind_eq_some_iff.mp h
    obtain ⟨o, e2, h⟩ := Option.bind_eq_some_iff.mp h
    obtain ⟨ρ4, rfl⟩ := k d List.mem_cons_self _ _ _ e1 e2
    rw [List.cons_append, forF, e1, Option.bind_some, e2, Option.bind_some]
    exact forF_app ds es ρ4 h fun d hd => k d (List.mem_cons_of_mem _ hd)
/-- a loop over range(n) that keeps P -/
theorem forF_range {g : PyData → Env' → Option Env'} {b : Env' → Option Out} {lo : Int} {P : Nat → Env' → Prop} {ρ : Env'} (n : Nat) (h0 : P 0 ρ) (hs : ∀ k ρ, k < n → P k ρ → ∃ ρ1 ρ2, g (.int (lo + k)) ρ = some ρ1 ∧ b ρ1 = some (.nx ρ2) ∧ P (k + 1) ρ2) : ∃ ρ2, forF g b (rangeD lo n) ρ = some (.nx ρ2) ∧ P n ρ2 := by
  have go : ∀ (j k : Nat) (ρ : Env'), k + j = n → P k ρ → ∃ ρ2, forF g b ((List.range' k j).map fun (i : Nat) => .int (lo + (i : Int))) ρ = some (.nx ρ2) ∧ P n ρ2 := by
    intro j
    induction j with
    | zero => intro k ρ e p; exact ⟨ρ, rfl, by rw [← e]; exact p⟩
    | succ j ih =>
      intro k ρ e p
      obtain ⟨ρ1, ρ2, q1, q2, q3⟩ := hs k ρ (by omega) p
      obtain ⟨ρ3, q4, q5⟩ := ih (k + 1) ρ2 (by omega) q3
      refine ⟨ρ3, ?_, q5⟩
      rw [List.range'_succ, List.map_cons, forF, q1, Option.bind_some, q2, Option.bind_some]
      exact q4
  have := go n 0 ρ (by omega) h0
  rwa [← List.range_eq_range'] at this
theorem pow_line : 2 ^ 12 ≤ sizeLine := Nat.le_trans (show 2 ^ 12 ≤ 65536 by decide) line_big
theorem af_inner : ∀ (X : List (List Bool)) (v : Env'), (∀ x ∈ X, x.length ≤ 12) → (∃ a b c, v = [Sl.d a, .d b, .d c, .un, .un]) → lc2F (fun d => gN 3 d v) eYes (eIS (eC (.str "ft"))) (fun ρ' => lcF (fun d => gN 4 d (unAll [4] ρ')) eYes (e2 addD (eVar 3) (eVar 4))) (fsD X) = some (fsD (longer X)) := by
    intro X v hX hv
    induction X with
    | nil => rfl
    | cons x X ih =>
      have ih := ih fun y hy => hX y (List.mem_cons_of_mem _ hy)
      obtain ⟨a, b, c, rfl⟩ := hv
      have h8 := fun c : Bool => add_fs (a := x) (b := [c]) (by have := hX x List.mem_cons_self; simp; omega)
      have : fsD (x :: X) = .str (fs x) :: fsD X := rfl
      have h2 : fsD (longer (x :: X)) = .str (fs (x ++ [false])) :: .str (fs (x ++ [true])) :: fsD (longer X) := rfl
      rw [this, h2, lc2F]
      simp only [gN, Option.bind_some, eYes, if_true, eIS, eC, gtS, Option.map_some, ft_signs, List.set]
      simp [runF, outD, slots0, eVar, eC, e1, e2, eNeg, eTst, eNot, eAnd, eOr, eNotV, eAndV, eOrV, eIf, eIsi, eNil, eCons, eCl, eTup, eLst, eAsL, eBor, eBorT, eNoO, eO, eSl, eStep, eZipL, eMt, eChain, eGetO, eIxO, eIL, eIT, eIS, eEnT, eR1, eListOf, eYes, eLc, eLc2, epNil, epD, eLen, eCall, evD, evL, evDisp, evNil, evCons, eNext, eBrk, eCnt, eSeq, eRet, eDrop, eIfS, eFrz, eAsg, ePar, eAsgG, eApp, eExt, ePop, eAug, eFor, unAll, frz, gtB, gtI, gtL, gtT, gtS, negD, asD, noOwn, lcF, h8]
      simp [runF, outD, slots0, eVar, eC, e1, e2, eNeg, eTst, eNot, eAnd, eOr, eNotV, eAndV, eOrV, eIf, eIsi, eNil, eCons, eCl, eTup, eLst, eAsL, eBor, eBorT, eNoO, eO, eSl, eStep, eZipL, eMt, eChain, eGetO, eIxO, eIL, eIT, eIS, eEnT, eR1, eListOf, eYes, eLc, eLc2, epNil, epD, eLen, eCall, evD, evL, evDisp, evNil, evCons, eNext, eBrk, eCnt, eSeq, eRet, eDrop, eIfS, eFrz, eAsg, ePar, eAsgG, eApp, eExt, ePop, eAug, eFor, gN, gNs, gC, gT, unAll, frz, gtB, gtI, gtL, gtT, gtS, negD, asD] at ih
      exact ih
theorem af_loop (n : Nat) (hn : n ≤ 12) : ∃ ρ2, forF (gN 2) (eAsg 1 (evD (eAsL (eLc2 [3, 4] [4] (eIL (eVar 1)) (gN 3) eYes (eIS (eC (.str "ft"))) (gN 4) eYes (e2 addD (eVar 3) (eVar 4)))))) (rangeD 0 n) [Sl.d (.int n), .d (.list (fsD (exts 0))), .un, .un, .un] = some (.nx ρ2) ∧ ∃ s, ρ2 = [Sl.d (.int n), .d (.list (fsD (exts n))), s, .un, .un] :=
  forF_range (g := gN 2) (b := eAsg 1 (evD (eAsL (eLc2 [3, 4] [4] (eIL (eVar 1)) (gN 3) eYes (eIS (eC (.str "ft"))) (gN 4) eYes (e2 addD (eVar 3) (eVar 4)))))) (lo := 0) (P := fun k ρ => ∃ s, ρ = [Sl.d (.int n), .d (.list (fsD (exts k))), s, .un, .un]) (ρ := [Sl.d (.int n), .d (.list (fsD (exts 0))), .un, .un, .un]) n ⟨_, rfl⟩ (by
    rintro k ρ hk ⟨s, rfl⟩
    refine ⟨_, _, rfl, ?_, .d (.int (0 + k)), rfl⟩
    have h1 := af_inner (exts k) [Sl.d (.int n), .d (.list (fsD (exts k))), .d (.int (0 + k)), .un, .un] (fun x hx => by rw [exts_mem hx]; omega) ⟨_, _, _, rfl⟩
    have h2 : (fsD (longer (exts k))).length ≤ sizeLine := by
      rw [fsD_len]
      show (exts (k + 1)).length ≤ _
      rw [exts_len]
      exact Nat.le_trans (Nat.pow_le_pow_right (by decide) (show k + 1 ≤ 12 by omega)) pow_line
    simp [eAsg, evD, eAsL, eLc2, eIL, eVar, gtL, unAll]
    simp [unAll] at h1
    rw [h1]
    simp [h2, exts])
theorem x_all_fillings (n : Nat) (hn : n ≤ 12) : f_all_fillings [.int n] = some (.list (fsD (exts n))) := by
  obtain ⟨ρ2, h1, s, rfl⟩ := af_loop n hn
  have hsm := smallJ_nat (n := n) (by omega)
  have h9 : (1 : Nat) ≤ sizeLine := line64 (by decide)
  have h0 : fsD (exts 0) = [.str ""] := by rw [fs_nil]; rfl
  rw [h0] at h1
  simp [f_all_fillings, e_all_fillings, N_all_fillings, runF, outD, slots0, eVar, eC, e1, e2, eNeg, eTst, eNot, eAnd, eOr, eNotV, eAndV, eOrV, eIf, eIsi, eNil, eCons, eCl, eTup, eLst, eAsL, eBor, eBorT, eNoO, eO, eSl, eStep, eZipL, eMt, eChain, eGetO, eIxO, eIL, eIT, eIS, eEnT, eR1, eListOf, eYes, eLc, eLc2, epNil, epD, eLen, eCall, evD, evL, evDisp, evNil, evCons, eNext, eBrk, eCnt, eSeq, eRet, eDrop, eIfS, eFrz, eAsg, ePar, eAsgG, eApp, eExt, ePop, eAug, eFor, unAll, frz, gtB, gtI, gtL, gtT, gtS, negD, asD, hsm, h9]
  rw [h1]
  simp [runF, outD, slots0, eVar, eC, e1, e2, eNeg, eTst, eNot, eAnd, eOr, eNotV, eAndV, eOrV, eIf, eIsi, eNil, eCons, eCl, eTup, eLst, eAsL, eBor, eBorT, eNoO, eO, eSl, eStep, eZipL, eMt, eChain, eGetO, eIxO, eIL, eIT, eIS, eEnT, eR1, eListOf, eYes, eLc, eLc2, epNil, epD, eLen, eCall, evD, evL, evDisp, evNil, evCons, eNext, eBrk, eCnt, eSeq, eRet, eDrop, eIfS, eFrz, eAsg, ePar, eAsgG, eApp, eExt, ePop, eAug, eFor, unAll, frz, gtB, gtI, gtL, gtT, gtS, negD, asD]
end K66
set_option maxRecDepth 100000
set_option maxHeartbeats 4000000
namespace K66
open PySem PySem.Spec L2 DL DR
theorem lf_inner (a b c e : Sl) : ∀ (X Y : List (List Bool)) , (∀ x ∈ X, x.length ≤ 12) → (Y.length + 2 * X.length ≤ 65536) → ∃ e', forF (gN 4) (eExt 3 (eAsL (eLst (eCons (e2 addD (eVar 4) (eC (.str "f"))) (eCons (e2 addD (eVar 4) (eC (.str "t"))) eNil))))) (fsD X) [a, b, c, .l (fsD Y), e] = some (.nx [a, b, c, .l (fsD (Y ++ longer X)), e']) := by
  intro X
  induction X generalizing e with
  | nil => intro Y _ _; exact ⟨e, by simp [longer, fsD, forF]⟩
  | cons x X ih =>
    intro Y hX hl
    have h8 := fun c : Bool => add_fs (a := x) (b := [c]) (by have := hX x List.mem_cons_self; simp; omega)
    have h9 : (2 : Nat) ≤ sizeLine := line64 (by decide)
    simp only [List.length_cons] at hl
    have h10 : (fsD Y).length + 2 ≤ sizeLine := Nat.le_trans (show _ ≤ 65536 by rw [fsD_len]; omega) line_big
    obtain ⟨e', h⟩ := ih (.d (.str (fs x))) (Y ++ [x ++ [false], x ++ [true]]) (fun y hy => hX y (List.mem_cons_of_mem _ hy)) (by simp; omega)
    refine ⟨e', ?_⟩
    have h2 : fsD (x :: X) = .str (fs x) :: fsD X := rfl
    have h3 : Y ++ longer (x :: X) = (Y ++ [x ++ [false], x ++ [true]]) ++ longer X := by simp [longer]
    have h4 : fsD (Y ++ [x ++ [false], x ++ [true]]) = fsD Y ++ [.str (fs (x ++ [false])), .str (fs (x ++ [true]))] := by simp [fsD]
    have q1 : Str.ofString "f" = fs [false] := fs_f
    have q2 : Str.ofString "t" = fs [true] := fs_tt
    rw [h3, ← h, h2, h4, forF, q1, q2]
    simp [runF, outD, slots0, eVar, eC, e1, e2, eNeg, eTst, eNot, eAnd, eOr, eNotV, eAndV, eOrV, eIf, eIsi, eNil, eCons, eCl, eTup, eLst, eAsL, eBor, eBorT, eNoO, eO, eSl, eStep, eZipL, eMt, eChain, eGetO, eIxO, eIL, eIT, eIS, eEnT, eR1, eListOf, eYes, eLc, eLc2, epNil, epD, eLen, eCall, evD, evL, evDisp, evNil, evCons, eNext, eBrk, eCnt, eSeq, eRet, eDrop, eIfS, eFrz, eAsg, ePar, eAsgG, eApp, eExt, ePop, eAug, eFor, gN, gNs, gC, gT, unAll, frz, gtB, gtI, gtL, gtT, gtS, negD, asD, h8, h9, h10, listD]
theorem lf_loop (n : Nat) (hn : n ≤ 12) : ∃ ρ2, forF (gN 2) (eSeq (eAsg 3 (evL (eLst eNil))) (eSeq (eFor (eIL (eAsL (eListOf (eVar 1)))) (gN 4) (eExt 3 (eAsL (eLst (eCons (e2 addD (eVar 4) (eC (.str "f"))) (eCons (e2 addD (eVar 4) (eC (.str "t"))) eNil)))))) (eFrz 3 (eAsg 1 (evD (eVar 3)))))) (rangeD 0 n) [Sl.d (.int n), .d (.list (fsD (exts 0))), .un, .un, .un] = some (.nx ρ2) ∧ ∃ s t u, ρ2 = [Sl.d (.int n), .d (.list (fsD (exts n))), s, t, u] :=
  forF_range (P := fun k ρ => ∃ s t u, ρ = [Sl.d (.int n), .d (.list (fsD (exts k))), s, t, u]) n ⟨_, _, _, rfl⟩ (by
    rintro k ρ hk ⟨s, t, u, rfl⟩
    obtain ⟨e', h1⟩ := lf_inner (.d (.int n)) (.d (.list (fsD (exts k)))) (.d (.int (0 + k))) u (exts k) [] (fun x hx => by rw [exts_mem hx]; omega) (by
      rw [exts_len]
      have := Nat.pow_le_pow_right (n := 2) (by decide) (show k ≤ 12 by omega)
      have h2 : (2 ^ 12 : Nat) = 4096 := by decide
      simp; omega)
    refine ⟨_, _, rfl, ?_, .d (.int (0 + k)), .d (.list (fsD (exts (k + 1)))), e', rfl⟩
    have h0 : fsD [] = [] := rfl
    rw [h0] at h1
    simp at h1
    simp [runF, outD, slots0, eVar, eC, e1, e2, eNeg, eTst, eNot, eAnd, eOr, eNotV, eAndV, eOrV, eIf, eIsi, eNil, eCons, eCl, eTup, eLst, eAsL, eBor, eBorT, eNoO, eO, eSl, eStep, eZipL, eMt, eChain, eGetO, eIxO, eIL, eIT, eIS, eEnT, eR1, eListOf, eYes, eLc, eLc2, epNil, epD, eLen, eCall, evD, evL, evDisp, evNil, evCons, eNext, eBrk, eCnt, eSeq, eRet, eDrop, eIfS, eFrz, eAsg, ePar, eAsgG, eApp, eExt, ePop, eAug, eFor, unAll, frz, gtB, gtI, gtL, gtT, gtS, negD, asD, listD]
    rw [h1]
    simp [exts])
theorem x__law_fillings (n : Nat) (hn : n ≤ 12) : f__law_fillings [.int n] = some (.list (fsD (exts n))) := by
  obtain ⟨ρ2, h1, s, t, u, rfl⟩ := lf_loop n hn
  have hsm := smallJ_nat (n := n) (by omega)
  have h9 : (1 : Nat) ≤ sizeLine := line64 (by decide)
  have h0 : fsD (exts 0) = [.str ""] := by rw [fs_nil]; rfl
  rw [h0] at h1
  simp [f__law_fillings, e__law_fillings, N__law_fillings, runF, slots0, eSeq, eAsg, evD, eAsL, eLst, eCons, eC, eNil, h9, eFor, eR1, eVar, gtI, hsm]
  rw [h1]
  simp [runF, outD, slots0, eVar, eC, e1, e2, eNeg, eTst, eNot, eAnd, eOr, eNotV, eAndV, eOrV, eIf, eIsi, eNil, eCons, eCl, eTup, eLst, eAsL, eBor, eBorT, eNoO, eO, eSl, eStep, eZipL, eMt, eChain, eGetO, eIxO, eIL, eIT, eIS, eEnT, eR1, eListOf, eYes, eLc, eLc2, epNil, epD, eLen, eCall, evD, evL, evDisp, evNil, evCons, eNext, eBrk, eCnt, eSeq, eRet, eDrop, eIfS, eFrz, eAsg, ePar, eAsgG, eApp, eExt, ePop, eAug, eFor, unAll, frz, gtB, gtI, gtL, gtT, gtS, negD, asD]
end K66
set_option maxRecDepth 100000
set_option maxHeartbeats 4000000
namespace K66
open PySem PySem.Spec L2 DL DR
def lvBody : Env' → Option Out := (eSeq (eAsg 4 (evD (e2 ixD (eVar 3) (eC (.int 0))))) (eIfS (eTst (e2 eqD (eVar 4) (eC (.str "yes")))) (eApp 2 (eC (.bool true))) (eIfS (eTst (e2 eqD (eVar 4) (eC (.str "v")))) (eApp 2 (e2 eqD (e2 ixD (eVar 1) (e2 ixD (eVar 3) (eC (.int 1)))) (eC (.str "t")))) (eIfS (eTst (e2 eqD (eVar 4) (eC (.str "not")))) (eApp 2 (eNotV (eIxO 2 (e2 ixD (eVar 3) (eC (.int 1)))))) (eSeq (ePar 5 6 (evCons (evD (eIxO 2 (e2 ixD (eVar 3) (eC (.int 1))))) (evCons (evD (eIxO 2 (e2 ixD (eVar 3) (eC (.int 2))))) evNil))) (eApp 2 (eIf (eTst (e2 eqD (eVar 4) (eC (.str "and")))) (eAndV (eVar 5) (eVar 6)) (eOrV (eVar 5) (eVar 6)))))))))
theorem lv_step {m : Nat} {gs : List PyData} {t : PyData} {acc fl : List Bool} (h : Gt m acc.length t) (hf : fl.length = m) (hm : m ≤ 64) (ha : acc.length < 64) (s4 s5 s6 : Sl) : ∃ s4' s5' s6', lvBody [Sl.d (.tuple gs), .d (.str (fs fl)), .l (acc.map .bool), .d t, s4, s5, s6] = some (.nx [Sl.d (.tuple gs), .d (.str (fs fl)), .l ((acc ++ [gval acc fl t]).map .bool), .d t, s4', s5', s6']) := by
  subst hf
  have h7 : acc.length < sizeLine := Nat.lt_of_lt_of_le ha (by decide)
  cases h with
  | yes => exact ⟨_, _, _, by simp [lvBody, runF, outD, slots0, eVar, eC, e1, e2, eNeg, eTst, eNot, eAnd, eOr, eNotV, eAndV, eOrV, eIf, eIsi, eNil, eCons, eCl, eTup, eLst, eAsL, eBor, eBorT, eNoO, eO, eSl, eStep, eZipL, eMt, eChain, eGetO, eIxO, eIL, eIT, eIS, eEnT, eR1, eListOf, eYes, eLc, eLc2, epNil, epD, eLen, eCall, evD, evL, evDisp, evNil, evCons, eNext, eBrk, eCnt, eSeq, eRet, eDrop, eIfS, eFrz, eAsg, ePar, eAsgG, eApp, eExt, ePop, eAug, eFor, unAll, frz, gtB, gtI, gtL, gtT, gtS, negD, asD, ix0, eql2, ok_yes, gval, h7]; exact ⟨rfl, rfl, rfl⟩⟩
  | v k h => exact ⟨_, _, _, by simp [lvBody, runF, outD, slots0, eVar, eC, e1, e2, eNeg, eTst, eNot, eAnd, eOr, eNotV, eAndV, eOrV, eIf, eIsi, eNil, eCons, eCl, eTup, eLst, eAsL, eBor, eBorT, eNoO, eO, eSl, eStep, eZipL, eMt, eChain, eGetO, eIxO, eIL, eIT, eIS, eEnT, eR1, eListOf, eYes, eLc, eLc2, epNil, epD, eLen, eCall, evD, evL, evDisp, evNil, evCons, eNext, eBrk, eCnt, eSeq, eRet, eDrop, eIfS, eFrz, eAsg, ePar, eAsgG, eApp, eExt, ePop, eAug, eFor, unAll, frz, gtB, gtI, gtL, gtT, gtS, negD, asD, ix0, ix1, eql2, ok_yes, ok_v, gval, ix_fs h hm, fs_t, h7]; exact ⟨rfl, rfl, rfl⟩⟩
  | no k h => exact ⟨_, _, _, by simp [lvBody, runF, outD, slots0, eVar, eC, e1, e2, eNeg, eTst, eNot, eAnd, eOr, eNotV, eAndV, eOrV, eIf, eIsi, eNil, eCons, eCl, eTup, eLst, eAsL, eBor, eBorT, eNoO, eO, eSl, eStep, eZipL, eMt, eChain, eGetO, eIxO, eIL, eIT, eIS, eEnT, eR1, eListOf, eYes, eLc, eLc2, epNil, epD, eLen, eCall, evD, evL, evDisp, evNil, evCons, eNext, eBrk, eCnt, eSeq, eRet, eDrop, eIfS, eFrz, eAsg, ePar, eAsgG, eApp, eExt, ePop, eAug, eFor, unAll, frz, gtB, gtI, gtL, gtT, gtS, negD, asD, ix0, ix1, eql2, ok_yes, ok_v, ok_not, gval, at_bs h, ofS_inj, h7]; exact ⟨rfl, rfl, rfl⟩⟩
  | an k l h h' =>
    refine ⟨.d (.str "and"), .d (.bool (acc.getD k false)), .d (.bool (acc.getD l false)), ?_⟩
    have q1 := at_bs h
    have q2 := at_bs h'
    have q3 : gval acc fl (.tuple [.str "and", .int k, .int l]) = (acc.getD k false && acc.getD l false) := by simp [gval]
    rw [q3]
    revert q1 q2
    generalize acc.getD k false = x
    generalize acc.getD l false = y
    intro q1 q2
    cases x <;> simp [lvBody, runF, outD, slots0, eVar, eC, e1, e2, eNeg, eTst, eNot, eAnd, eOr, eNotV, eAndV, eOrV, eIf, eIsi, eNil, eCons, eCl, eTup, eLst, eAsL, eBor, eBorT, eNoO, eO, eSl, eStep, eZipL, eMt, eChain, eGetO, eIxO, eIL, eIT, eIS, eEnT, eR1, eListOf, eYes, eLc, eLc2, epNil, epD, eLen, eCall, evD, evL, evDisp, evNil, evCons, eNext, eBrk, eCnt, eSeq, eRet, eDrop, eIfS, eFrz, eAsg, ePar, eAsgG, eApp, eExt, ePop, eAug, eFor, unAll, frz, gtB, gtI, gtL, gtT, gtS, negD, asD, ix0, ix1, ix2, eql2, ok_yes, ok_v, ok_not, ok_and, q1, q2, ofS_inj, h7]
  | o k l h h' =>
    refine ⟨.d (.str "or"), .d (.bool (acc.getD k false)), .d (.bool (acc.getD l false)), ?_⟩
    have q1 := at_bs h
    have q2 := at_bs h'
    have q3 : gval acc fl (.tuple [.str "or", .int k, .int l]) = (acc.getD k false || acc.getD l false) := by simp [gval, ofS_inj]
    rw [q3]
    revert q1 q2
    generalize acc.getD k false = x
    generalize acc.getD l false = y
    intro q1 q2
    cases x <;> simp [lvBody, runF, outD, slots0, eVar, eC, e1, e2, eNeg, eTst, eNot, eAnd, eOr, eNotV, eAndV, eOrV, eIf, eIsi, eNil, eCons, eCl, eTup, eLst, eAsL, eBor, eBorT, eNoO, eO, eSl, eStep, eZipL, eMt, eChain, eGetO, eIxO, eIL, eIT, eIS, eEnT, eR1, eListOf, eYes, eLc, eLc2, epNil, epD, eLen, eCall, evD, evL, evDisp, evNil, evCons, eNext, eBrk, eCnt, eSeq, eRet, eDrop, eIfS, eFrz, eAsg, ePar, eAsgG, eApp, eExt, ePop, eAug, eFor, unAll, frz, gtB, gtI, gtL, gtT, gtS, negD, asD, ix0, ix1, ix2, eql2, ok_yes, ok_v, ok_not, ok_and, ok_or, q1, q2, ofS_inj, h7]
theorem x__law_values {m : Nat} {gs : List PyData} {fl : List Bool} (hg : gatesOk m gs 0 = true) (hf : fl.length = m) (hm : m ≤ 64) (hn : gs.length ≤ 64) : f__law_values [.tuple gs, .str (fs fl)] = some (.list ((vals fl gs []).map .bool)) := by
  have go : ∀ (ds : List PyData) (acc : List Bool) (s s4 s5 s6 : Sl), gatesOk m ds acc.length = true → acc.length + ds.length ≤ 64 → ∃ s' s4' s5' s6', forF (gN 3) lvBody ds [Sl.d (.tuple gs), .d (.str (fs fl)), .l (acc.map .bool), s, s4, s5, s6] = some (.nx [Sl.d (.tuple gs), .d (.str (fs fl)), .l ((vals fl ds acc).map .bool), s', s4', s5', s6']) := by
    intro ds
    induction ds with
    | nil => intro acc s s4 s5 s6 _ _; exact ⟨s, s4, s5, s6, rfl⟩
    | cons d ds ih =>
      intro acc s s4 s5 s6 h1 h2
      obtain ⟨h3, h4⟩ := gatesOk_cons h1
      simp only [List.length_cons] at h2
      obtain ⟨t4, t5, t6, h5⟩ := lv_step (gs := gs) (gt_of h3) hf hm (by omega) s4 s5 s6
      obtain ⟨s', s4', s5', s6', h6⟩ := ih (acc ++ [gval acc fl d]) (.d d) t4 t5 t6 (by simpa using h4) (by simp; omega)
      refine ⟨s', s4', s5', s6', ?_⟩
      simp only [forF, gN, Option.bind_some, List.set, h5]
      exact h6
  obtain ⟨s', s4', s5', s6', h6⟩ := go gs [] .un .un .un .un hg (by simpa using hn)
  unfold lvBody at h6
  simp [f__law_values, e__law_values, N__law_values, runF, slots0, eSeq, eAsg, evL, eLst, eNil, eFor, eIT, eVar, gtT]
  simp at h6
  rw [h6]
  simp [runF, outD, slots0, eVar, eC, e1, e2, eNeg, eTst, eNot, eAnd, eOr, eNotV, eAndV, eOrV, eIf, eIsi, eNil, eCons, eCl, eTup, eLst, eAsL, eBor, eBorT, eNoO, eO, eSl, eStep, eZipL, eMt, eChain, eGetO, eIxO, eIL, eIT, eIS, eEnT, eR1, eListOf, eYes, eLc, eLc2, epNil, epD, eLen, eCall, evD, evL, evDisp, evNil, evCons, eNext, eBrk, eCnt, eSeq, eRet, eDrop, eIfS, eFrz, eAsg, ePar, eAsgG, eApp, eExt, ePop, eAug, eFor, unAll, frz, gtB, gtI, gtL, gtT, gtS, negD, asD]
end K66
set_option maxRecDepth 100000
set_option maxHeartbeats 4000000
namespace K66
open PySem PySem.Spec L2 DL DR
def rowD (gs : List PyData) (n : Nat) : List Bool := (exts n).map (gv gs)
theorem ixl {xs : List PyData} : ixD (.list xs) (.int (-1)) = xs.getLast? := at_last
theorem lcF_fs {g : PyData → Option Env'} {t : Env' → Option Bool} {e : Env' → Option PyData} {h : List Bool → PyData} : ∀ {X : List (List Bool)}, (∀ x ∈ X, ∃ ρ, g (.str (fs x)) = some ρ ∧ t ρ = some true ∧ e ρ = some (h x)) → lcF g t e (fsD X) = some (X.map h)
  | [], _ => rfl
  | x :: X, k => by
    obtain ⟨ρ, h1, h2, h3⟩ := k x List.mem_cons_self
    have ih := lcF_fs fun y hy => k y (List.mem_cons_of_mem _ hy)
    have : fsD (x :: X) = .str (fs x) :: fsD X := rfl
    rw [this]
    simp [lcF, h1, h2, h3, ih]
theorem x__law_row {l : List Bool} {gs : List PyData} (hl : l.length ≤ 12) (hg : gatesOk (l.length : Nat) gs 0 = true) (hn : gs.length ≤ 64) (h0 : gs ≠ []) : f__law_row [.tuple [.str (es l), .tuple gs]] = some (.list ((rowD gs l.length).map .bool)) := by
  have k1 : ∀ σ : Env', σ = [Sl.d (.tuple [.str (es l), .tuple gs]), .un] → lcF (fun d => gN 1 d σ) eYes (e2 ixD (eCall f__law_values (eLen 2 (epD (e2 ixD (eVar 0) (eC (.int 1))) (epD (eVar 1) epNil)))) (e1 negD (eC (.int 1)))) (fsD (exts l.length)) = some ((exts l.length).map fun x => .bool (gv gs x)) := fun σ hσ => lcF_fs fun x hx => by
    refine ⟨_, rfl, rfl, ?_⟩
    rw [hσ]
    have h1 := x__law_values (m := l.length) hg (exts_mem hx) (by omega) hn
    have h2 := last_bs (vals_ne h0 x)
    simp only [List.getLast?_map] at h2
    simp [runF, outD, slots0, eVar, eC, e1, e2, eNeg, eTst, eNot, eAnd, eOr, eNotV, eAndV, eOrV, eIf, eIsi, eNil, eCons, eCl, eTup, eLst, eAsL, eBor, eBorT, eNoO, eO, eSl, eStep, eZipL, eMt, eChain, eGetO, eIxO, eIL, eIT, eIS, eEnT, eR1, eListOf, eYes, eLc, eLc2, epNil, epD, eLen, eCall, evD, evL, evDisp, evNil, evCons, eNext, eBrk, eCnt, eSeq, eRet, eDrop, eIfS, eFrz, eAsg, ePar, eAsgG, eApp, eExt, ePop, eAug, eFor, gN, gNs, gC, gT, unAll, frz, gtB, gtI, gtL, gtT, gtS, negD, asD, ix1, h1, ixl, h2, gv]
  have h3 : (exts l.length).length ≤ sizeLine := by
    rw [exts_len]; exact Nat.le_trans (Nat.pow_le_pow_right (by decide) hl) pow_line
  simp [f__law_row, e__law_row, N__law_row, runF, outD, slots0, eVar, eC, e1, e2, eNeg, eTst, eNot, eAnd, eOr, eNotV, eAndV, eOrV, eIf, eIsi, eNil, eCons, eCl, eTup, eLst, eAsL, eBor, eBorT, eNoO, eO, eSl, eStep, eZipL, eMt, eChain, eGetO, eIxO, eIL, eIT, eIS, eEnT, eR1, eListOf, eYes, eLc, eLc2, epNil, epD, eLen, eCall, evD, evL, evDisp, evNil, evCons, eNext, eBrk, eCnt, eSeq, eRet, eDrop, eIfS, eFrz, eAsg, ePar, eAsgG, eApp, eExt, ePop, eAug, eFor, unAll, frz, gtB, gtI, gtL, gtT, gtS, negD, asD, ix0, len_es (show l.length ≤ 64 by omega), x__law_fillings l.length hl]
  rw [k1 _ rfl]
  simp [h3, rowD, outD, Function.comp_def]
end K66
set_option maxRecDepth 100000
set_option maxHeartbeats 4000000
namespace K66
open PySem PySem.Spec L2 DL DR
theorem stepIx_even (n : Nat) : stepIx none 2 (2 * n) = (List.range n).map fun k => 2 * k := by
  have e : sliceBounds none none (some 2) (2 * n) = (0, ((2 * n : Nat) : Int), 2) := by
    unfold sliceBounds
    simp
  unfold stepIx
  rw [e]
  simp only [sliceRange]
  rw [if_pos (by decide)]
  by_cases hn : 0 < n
  · rw [if_pos (by omega)]
    have : ((((2 * n : Nat) : Int) - 0 + 2 - 1) / 2).toNat = n := by omega
    rw [this]
    refine List.map_congr_left fun k _ => by omega
  · have : n = 0 := by omega
    subst this; rfl
theorem stepIx_odd (n : Nat) : stepIx (some 1) 2 (2 * n) = (List.range n).map fun k => 2 * k + 1 := by
  by_cases hn : 0 < n
  · have e : sliceBounds (some 1) none (some 2) (2 * n) = (1, ((2 * n : Nat) : Int), 2) := by
      unfold sliceBounds
      simp
      omega
    unfold stepIx
    rw [e]
    simp only [sliceRange]
    rw [if_pos (by decide), if_pos (by omega)]
    have : ((((2 * n : Nat) : Int) - 1 + 2 - 1) / 2).toNat = n := by omega
    rw [this]
    refine List.map_congr_left fun k _ => by omega
  · have : n = 0 := by omega
    subst this; decide +kernel
def op (b x y : Bool) : Bool := if b = true then x || y else x && y
/-- one letter taken off the end -/
def pairUp (b : Bool) : List Bool → List Bool
  | x :: y :: r => op b x y :: pairUp b r
  | _ => []
theorem pairUp_range (b : Bool) : ∀ (n : Nat) (row : List Bool), row.length = 2 * n → ((List.range n).map fun k => op b (row.getD (2 * k) false) (row.getD (2 * k + 1) false)) = pairUp b row
  | 0, row, h => by
    have : row = [] := List.length_eq_zero_iff.mp (by omega)
    subst this; rfl
  | n + 1, row, h => by
    match row, h with
    | x :: y :: r, h =>
      simp only [List.length_cons] at h
      rw [List.range_succ_eq_map, List.map_cons, List.map_map, pairUp, ← pairUp_range b n r (by omega)]
      simp [Function.comp_def, Nat.mul_add]
    | [_], h => simp at h; omega
    | [], h => simp at h
theorem pairUp_len (b : Bool) : ∀ (n : Nat) (row : List Bool), row.length = 2 * n → (pairUp b row).length = n := fun n row h => by
  rw [← pairUp_range b n row h]; simp
theorem fm_map {α β : Type} {g : α → Option β} {f : α → β} : ∀ l : List α, (∀ a ∈ l, g a = some (f a)) → l.filterMap g = l.map f
  | [], _ => rfl
  | a :: l, h => by
    rw [List.filterMap_cons, h a List.mem_cons_self, List.map_cons]
    simp only [fm_map l fun b hb => h b (List.mem_cons_of_mem _ hb)]
theorem pick_map {n : Nat} {row : List Bool} {f : Nat → Nat} (h : ∀ k, k < n → f k < row.length) : pick ((List.range n).map f) (row.map PyData.bool) = (List.range n).map fun k => .bool (row.getD (f k) false) := by
  unfold pick
  rw [List.filterMap_map]
  refine fm_map _ fun k hk => ?_
  have := h k (List.mem_range.mp hk)
  simp [this]
def lawV : List Bool → List Bool → List Bool
  | [], row => row
  | b :: q, row => lawV q (pairUp b row)
theorem lawV_len : ∀ (q row : List Bool), row.length = 2 ^ q.length → (lawV q row).length = 1
  | [], row, h => by rw [lawV]; simpa using h
  | b :: q, row, h => by
    rw [lawV]
    refine lawV_len q _ (pairUp_len b _ _ ?_)
    rw [h, List.length_cons, Nat.pow_succ]; omega
theorem zip_row {n : Nat} {row : List Bool} (h : row.length = 2 * n) : zipD (pick (stepIx none 2 (row.map PyData.bool).length) (row.map PyData.bool)) (pick (stepIx (some 1) 2 (row.map PyData.bool).length) (row.map PyData.bool)) = (List.range n).map fun k => .tuple [.bool (row.getD (2 * k) false), .bool (row.getD (2 * k + 1) false)] := by
  rw [List.length_map, h, stepIx_even, stepIx_odd, pick_map fun k hk => by omega, pick_map fun k hk => by omega]
  unfold zipD
  rw [List.zip_map', List.map_map]
  rfl
theorem rev_es (l : List Bool) (h : l.length ≤ 64) : revD (.str (es l)) = some (.str (es l.reverse)) := by
  simp only [revD, es_len, if_pos (line64 h)]
  simp [revStr, es]
theorem signs_es (l : List Bool) : signsD (es l) = l.map fun b => .str (es [b]) := by
  simp [signsD, es]
end K66
set_option maxRecDepth 100000
set_option maxHeartbeats 4000000
namespace K66
open PySem PySem.Spec L2 DL DR
def lwBody : Env' → Option Out := (eSeq (eAsg 3 (evD (eAsL (eZipL (eStep 2 (eVar 1) eNoO) (eStep 2 (eVar 1) (eO (eC (.int 1)))))))) (eAsg 1 (evD (eAsL (eLc [4, 5] (eIL (eVar 3)) (gT 2 (gC (gN 4) (gC (gN 5) gNs))) eYes (eIf (eTst (e2 eqD (eVar 2) (eC (.str "e")))) (eOrV (eVar 4) (eVar 5)) (eAndV (eVar 4) (eVar 5))))))))
theorem lcF_rng {n : Nat} {F : Nat → PyData} {g : PyData → Option Env'} {t : Env' → Option Bool} {e : Env' → Option PyData} {h : Nat → PyData} (k : ∀ i, ∃ ρ, g (F i) = some ρ ∧ t ρ = some true ∧ e ρ = some (h i)) : lcF g t e ((List.range n).map F) = some ((List.range n).map h) := by
  induction List.range n with
  | nil => rfl
  | cons i l ih =>
    obtain ⟨ρ, h1, h2, h3⟩ := k i
    simp [lcF, h1, h2, h3, ih]
theorem lw_step {n : Nat} {row : List Bool} (h : row.length = 2 * n) (hn : n ≤ 4096) (p : PyData) (b : Bool) (s3 s4 s5 : Sl) : ∃ t3 t4 t5, lwBody [Sl.d p, .d (.list (row.map .bool)), .d (.str (es [b])), s3, s4, s5] = some (.nx [Sl.d p, .d (.list ((pairUp b row).map .bool)), .d (.str (es [b])), t3, t4, t5]) := by
  have z1 := zip_row h
  have k2 : ∀ v : PyData, lcF (fun d => gT 2 (gC (gN 4) (gC (gN 5) gNs)) d [Sl.d p, .d (.list (row.map .bool)), .d (.str (es [b])), .d v, .un, .un]) eYes (eIf (eTst (e2 eqD (eVar 2) (eC (.str "e")))) (eOrV (eVar 4) (eVar 5)) (eAndV (eVar 4) (eVar 5))) ((List.range n).map fun k => .tuple [.bool (row.getD (2 * k) false), .bool (row.getD (2 * k + 1) false)]) = some ((List.range n).map fun k => .bool (op b (row.getD (2 * k) false) (row.getD (2 * k + 1) false))) := fun v => lcF_rng fun i => by
    refine ⟨[Sl.d p, .d (.list (row.map .bool)), .d (.str (es [b])), .d v, .d (.bool (row.getD (2 * i) false)), .d (.bool (row.getD (2 * i + 1) false))], by simp [runF, outD, slots0, eVar, eC, e1, e2, eNeg, eTst, eNot, eAnd, eOr, eNotV, eAndV, eOrV, eIf, eIsi, eNil, eCons, eCl, eTup, eLst, eAsL, eBor, eBorT, eNoO, eO, eSl, eStep, eZipL, eMt, eChain, eGetO, eIxO, eIL, eIT, eIS, eEnT, eR1, eListOf, eYes, eLc, eLc2, epNil, epD, eLen, eCall, evD, evL, evDisp, evNil, evCons, eNext, eBrk, eCnt, eSeq, eRet, eDrop, eIfS, eFrz, eAsg, ePar, eAsgG, eApp, eExt, ePop, eAug, eFor, gN, gNs, gC, gT, unAll, frz, gtB, gtI, gtL, gtT, gtS, negD, asD], rfl, ?_⟩
    generalize row.getD (2 * i) false = x
    generalize row.getD (2 * i + 1) false = y
    cases b <;> cases x <;> simp [runF, outD, slots0, eVar, eC, e1, e2, eNeg, eTst, eNot, eAnd, eOr, eNotV, eAndV, eOrV, eIf, eIsi, eNil, eCons, eCl, eTup, eLst, eAsL, eBor, eBorT, eNoO, eO, eSl, eStep, eZipL, eMt, eChain, eGetO, eIxO, eIL, eIT, eIS, eEnT, eR1, eListOf, eYes, eLc, eLc2, epNil, epD, eLen, eCall, evD, evL, evDisp, evNil, evCons, eNext, eBrk, eCnt, eSeq, eRet, eDrop, eIfS, eFrz, eAsg, ePar, eAsgG, eApp, eExt, ePop, eAug, eFor, gN, gNs, gC, gT, unAll, frz, gtB, gtI, gtL, gtT, gtS, negD, asD, es_e, op]
  have k3 : n ≤ sizeLine := Nat.le_trans hn (Nat.le_trans (by decide) line_big)
  have k4 := pairUp_range b n row h
  refine ⟨.d (.list ((List.range n).map fun k => .tuple [.bool (row.getD (2 * k) false), .bool (row.getD (2 * k + 1) false)])), s4, s5, ?_⟩
  unfold lwBody
  simp only [runF, outD, slots0, eVar, eC, e1, e2, eNeg, eTst, eNot, eAnd, eOr, eNotV, eAndV, eOrV, eIf, eIsi, eNil, eCons, eCl, eTup, eLst, eAsL, eBor, eBorT, eNoO, eO, eSl, eStep, eZipL, eMt, eChain, eGetO, eIxO, eIL, eIT, eIS, eEnT, eR1, eListOf, eYes, eLc, eLc2, epNil, epD, eLen, eCall, evD, evL, evDisp, evNil, evCons, eNext, eBrk, eCnt, eSeq, eRet, eDrop, eIfS, eFrz, eAsg, ePar, eAsgG, eApp, eExt, ePop, eAug, eFor, unAll, frz, gtB, gtI, gtL, gtT, gtS, negD, asD, List.getElem?_cons_zero, List.getElem?_cons_succ, Option.bind_some, Option.map_some, z1, List.set]
  rw [k2]
  rw [← k4]
  simp [k3, Function.comp_def]
theorem x__law_value {l row : List Bool} (hl : l.length ≤ 12) (h : row.length = 2 ^ l.length) : f__law_value [.str (es l), .list (row.map .bool)] = some (.bool ((lawV l.reverse row).getD 0 false)) := by
  have go : ∀ (q row : List Bool) (s2 s3 s4 s5 : Sl), row.length = 2 ^ q.length → q.length ≤ 12 → ∃ t2 t3 t4 t5, forF (gN 2) lwBody (q.map fun b => .str (es [b])) [Sl.d (.str (es l)), .d (.list (row.map .bool)), s2, s3, s4, s5] = some (.nx [Sl.d (.str (es l)), .d (.list ((lawV q row).map .bool)), t2, t3, t4, t5]) := by
    intro q
    induction q with
    | nil => intro row s2 s3 s4 s5 _ _; exact ⟨_, _, _, _, rfl⟩
    | cons b q ih =>
      intro row s2 s3 s4 s5 h1 h2
      simp only [List.length_cons] at h1 h2
      have h3 : row.length = 2 * 2 ^ q.length := by rw [h1, Nat.pow_succ]; omega
      have h4 : 2 ^ q.length ≤ 4096 := Nat.le_trans (Nat.pow_le_pow_right (by decide) (show q.length ≤ 12 by omega)) (by decide)
      obtain ⟨t3, t4, t5, h5⟩ := lw_step h3 h4 (.str (es l)) b s3 s4 s5
      obtain ⟨u2, u3, u4, u5, h6⟩ := ih (pairUp b row) (.d (.str (es [b]))) t3 t4 t5 (pairUp_len b _ _ h3) (by omega)
      refine ⟨u2, u3, u4, u5, ?_⟩
      simp only [List.map_cons, forF, gN, Option.bind_some, List.set, h5]
      exact h6
  obtain ⟨t2, t3, t4, t5, h6⟩ := go l.reverse row .un .un .un .un (by simpa using h) (by simpa using hl)
  have h7 := lawV_len l.reverse row (by simpa using h)
  have h8 : ixD (.list ((lawV l.reverse row).map .bool)) (.int 0) = some (.bool ((lawV l.reverse row).getD 0 false)) := ix_bs (k := 0) (by omega)
  unfold lwBody at h6
  simp only [f__law_value, e__law_value, N__law_value, runF, slots0, eSeq, eFor, eIS, e1, eVar, List.map, List.length, List.getElem?_cons_zero, Option.bind_some, rev_es l (by omega), gtS, Option.map_some, signs_es]
  simp only [List.replicate, List.append, Nat.sub, List.cons_append, List.nil_append, Nat.reduceAdd, Nat.reduceSub, if_true]
  simp only [List.getElem?_cons_zero, Option.bind_some, rev_es l (show l.length ≤ 64 by omega), Option.map_some, signs_es]
  rw [h6]
  simp only [Option.bind_some, eRet, e2, eVar, eC, List.getElem?_cons_zero, List.getElem?_cons_succ, h8, Option.map_some, outD]
end K66
namespace K66
open PySem PySem.Spec L2 DL DR
/-! the plain law: the fold from the end is the value behind a filling -/
theorem pairUp_longer (b : Bool) (F : List Bool → Bool) : ∀ X : List (List Bool), pairUp b ((longer X).map F) = X.map fun x => op b (F (x ++ [false])) (F (x ++ [true]))
  | [] => rfl
  | x :: X => by
    have e : longer (x :: X) = (x ++ [false]) :: (x ++ [true]) :: longer X := rfl
    rw [e, List.map_cons, List.map_cons, pairUp, pairUp_longer b F X, List.map_cons]
theorem tv_op (G : List Bool → Bool) (b : Bool) (q fl : List Bool) : tv G (b :: q) fl = op b (tv G q (fl ++ [false])) (tv G q (fl ++ [true])) := rfl
theorem tv_snoc (G : List Bool → Bool) (b : Bool) : ∀ (q fl : List Bool), tv G (q ++ [b]) fl = tv (fun x => op b (G (x ++ [false])) (G (x ++ [true]))) q fl
  | [], fl => rfl
  | c :: q, fl => by rw [List.cons_append, tv_op, tv_op, tv_snoc G b q, tv_snoc G b q]
theorem tv_pre (fl : List Bool) : ∀ (q : List Bool) (G : List Bool → Bool) (x : List Bool), tv G q (fl ++ x) = tv (fun y => G (fl ++ y)) q x
  | [], G, x => rfl
  | b :: q, G, x => by rw [tv_op, tv_op, List.append_assoc, List.append_assoc, tv_pre fl q G, tv_pre fl q G]
theorem fold_tv_rev : ∀ (r : List Bool) (G : List Bool → Bool), lawV r ((exts r.length).map G) = [tv G r.reverse []]
  | [], G => rfl
  | b :: r, G => by
    have e : exts (b :: r).length = longer (exts r.length) := rfl
    rw [lawV, e, pairUp_longer, fold_tv_rev r, List.reverse_cons, tv_snoc]
theorem fold_tv (q fl : List Bool) (G : List Bool → Bool) : lawV q.reverse ((exts q.length).map fun x => G (fl ++ x)) = [tv G q fl] := by
  have := fold_tv_rev q.reverse fun x => G (fl ++ x)
  rw [List.length_reverse, List.reverse_reverse] at this
  rw [this, ← tv_pre, List.append_nil]
theorem exts_split (a : Nat) : ∀ c, exts (a + c) = (exts a).flatMap fun y => (exts c).map fun x => y ++ x
  | 0 => by simp [exts]
  | c + 1 => by
    show longer (exts (a + c)) = _
    rw [exts_split a c]
    induction exts a with
    | nil => rfl
    | cons y Y ih =>
      have e : ∀ X Y : List (List Bool), longer (X ++ Y) = longer X ++ longer Y := fun X Y => by simp [longer]
      rw [List.flatMap_cons, e, ih, List.flatMap_cons]
      congr 1
      show _ = (longer (exts c)).map _
      induction exts c with
      | nil => rfl
      | cons x X ih2 =>
        have e2 : ∀ x (X : List (List Bool)), longer (x :: X) = (x ++ [false]) :: (x ++ [true]) :: longer X := fun _ _ => rfl
        rw [List.map_cons, e2, ih2, e2, List.map_cons, List.map_cons]
        simp
theorem slice_flat {α β : Type} (f : α → List β) (w : Nat) (hf : ∀ a, (f a).length = w) : ∀ (X : List α) (i : Nat) (x : α), X[i]? = some x → ((X.flatMap f).drop (i * w)).take w = f x
  | [], i, x, h => by simp at h
  | y :: X, 0, x, h => by
    simp at h
    subst h
    rw [Nat.zero_mul, List.drop_zero, List.flatMap_cons, List.take_append_of_le_length (by rw [hf]; exact Nat.le_refl _), List.take_of_length_le (by rw [hf]; exact Nat.le_refl _)]
  | y :: X, i + 1, x, h => by
    simp only [List.getElem?_cons_succ] at h
    rw [List.flatMap_cons, Nat.add_mul, Nat.one_mul, Nat.add_comm, ← hf y, ← List.drop_drop, List.drop_left, hf y]
    exact slice_flat f w hf X i x h
theorem row_slice {gs : List PyData} {a c i : Nat} {fl : List Bool} (h : (exts a)[i]? = some fl) : ((rowD gs (a + c)).drop (i * 2 ^ c)).take (2 ^ c) = (exts c).map fun x => gv gs (fl ++ x) := by
  unfold rowD
  rw [exts_split, List.map_flatMap]
  simp only [List.map_map]
  exact slice_flat _ _ (fun y => by rw [List.length_map, exts_len]) _ _ _ h
end K66
namespace K66
open PySem PySem.Spec L2 DL DR
/-! the plain law: the turned circuit -/
theorem vals_snoc (fl : List Bool) (g : PyData) : ∀ (gs : List PyData) (acc : List Bool), vals fl (gs ++ [g]) acc = vals fl gs acc ++ [gval (vals fl gs acc) fl g]
  | [], acc => rfl
  | d :: gs, acc => by rw [List.cons_append, vals, vals, vals_snoc fl g gs]
def turnG (gs : List PyData) : List PyData := gs ++ [.tuple [.str "not", .int ((gs.length : Int) - 1)]]
theorem gv_turn {gs : List PyData} (h : gs ≠ []) (fl : List Bool) : gv (turnG gs) fl = !gv gs fl := by
  have hl := vals_len fl gs []
  have hp : 0 < gs.length := List.length_pos_iff.mpr h
  simp only [List.length_nil, Nat.zero_add] at hl
  unfold gv turnG
  rw [vals_snoc, List.getLast?_append]
  simp only [List.getLast?_singleton, Option.some_or, Option.getD_some]
  have e : ((gs.length : Int) - 1).toNat = (vals fl gs []).length - 1 := by rw [hl]; omega
  have n : ¬ (Str.ofString "not" = Str.ofString "v") := fun h => absurd (ofS_inj.mp h) (by decide)
  simp only [gval, if_neg n, e]
  rw [List.getLast?_eq_getElem?]
  simp
theorem tv_not (G : List Bool → Bool) : ∀ (q fl : List Bool), tv (fun x => !G x) (q.map (!·)) fl = !tv G q fl
  | [], fl => rfl
  | b :: q, fl => by
    rw [List.map_cons, tv_op, tv_op, tv_not G q, tv_not G q]
    cases b <;> simp [op]
theorem tv_congr {G G' : List Bool → Bool} (h : ∀ x, G x = G' x) (q fl : List Bool) : tv G q fl = tv G' q fl := by
  have : G = G' := funext h
  rw [this]
theorem tv_turn {gs : List PyData} (h : gs ≠ []) (q fl : List Bool) : tv (gv (turnG gs)) (q.map (!·)) fl = !tv (gv gs) q fl := by
  rw [tv_congr (gv_turn h), tv_not]
theorem row_turn {gs : List PyData} (h : gs ≠ []) (n : Nat) : rowD (turnG gs) n = (rowD gs n).map (!·) := by
  unfold rowD
  rw [List.map_map]
  exact List.map_congr_left fun x _ => gv_turn h x
theorem filter_turn : ∀ l : List Bool, ((l.map (!·)).filter id).length = l.length - (l.filter id).length
  | [] => rfl
  | b :: l => by
    have ih := filter_turn l
    have := List.length_filter_le id l
    cases b <;> simp_all <;> omega
theorem gates_snoc (m : Int) (t : PyData) : ∀ (gs : List PyData) (n : Nat), gatesOk m (gs ++ [t]) n = (gatesOk m gs n && gateOk m (n + gs.length : Nat) t)
  | [], n => by simp [gatesOk]
  | g :: gs, n => by
    rw [List.cons_append, gatesOk, gatesOk, gates_snoc m t gs (n + 1), Bool.and_assoc]
    have : n + 1 + gs.length = n + (g :: gs).length := by simp; omega
    rw [this]
theorem gates_turn {m : Int} {gs : List PyData} (h : gs ≠ []) (hg : gatesOk m gs 0 = true) : gatesOk m (turnG gs) 0 = true := by
  have hp : 0 < gs.length := List.length_pos_iff.mpr h
  unfold turnG
  rw [gates_snoc, hg]
  have n : ¬ (Str.ofString "not" = Str.ofString "v") := fun h => absurd (ofS_inj.mp h) (by decide)
  simp only [gateOk, if_neg n, inR, Bool.true_and]
  simp
  omega
end K66
set_option maxRecDepth 100000
set_option maxHeartbeats 4000000
namespace K66
open PySem PySem.Spec L2 DL DR
def x_need (C : Addr) : XFn := runX 1 N_need_circuit (xIfS (eNot (eTst (eCall f_is_circuit_value (eLen 1 (epD (eVar 0) epNil))))) (xRaise C (eVar 0)) (xLift eNext))
theorem r_need (C : Addr) : ∀ ss Q E, ss.length = 1 → rf (x_need C) ss Q E → b_need_circuit (wf f_is_circuit_value) C E (slots0 N_need_circuit ss) (enD Q) :=
  runX_ok (w := b_need_circuit (wf f_is_circuit_value) C) fun Ex => sxIfS (sNot (sTst (sCall (sLen (spD_ sVar spNil))))) (sxRaise sVar) (sxLift sNext)
def x_after (C C' : Addr) : XFn := runX 2 N_circuit_after (xSeq (xDrop (x_need C) (eLen 1 (epD (eVar 0) epNil))) (xSeq (xIfS (eOr (eNot (eTst (eCall f_is_filling_value (eLen 1 (epD (eVar 1) epNil))))) (eTst (e2 gtD (eCl lenD (eCons (eVar 1) eNil)) (eCl lenD (eCons (e2 ixD (eVar 0) (eC (.int 0))) eNil))))) (xRaise C' (eVar 1)) (xLift eNext)) (xLift (eRet (eCall (f_value_from 13) (eLen 2 (epD (eVar 0) (epD (eVar 1) epNil))))))))
theorem r_after (C C' : Addr) : ∀ ss Q E, ss.length = 2 → rf (x_after C C') ss Q E → b_circuit_after (rf (x_need C)) (wf (f_value_from 13)) (wf f_is_filling_value) C' E (slots0 N_circuit_after ss) (enD Q) :=
  runX_ok (w := b_circuit_after (rf (x_need C)) (wf (f_value_from 13)) (wf f_is_filling_value) C') fun Ex => sxSeq (sxDrop (sLen (spD_ sVar spNil))) (sxSeq (sxIfS (sOr (sNot (sTst (sCall (sLen (spD_ sVar spNil))))) (sTst (s2 (sCl (sCons sVar sNil)) (sCl (sCons (s2 sVar sC) sNil))))) (sxRaise sVar) (sxLift sNext)) (sxLift (sRet (sCall (sLen (spD_ sVar (spD_ sVar spNil)))))))
def x_value (C : Addr) : XFn := runX 1 N_circuit_value (xSeq (xDrop (x_need C) (eLen 1 (epD (eVar 0) epNil))) (xLift (eRet (eCall (f_value_from 13) (eLen 2 (epD (eVar 0) (epD (eC (.str "")) epNil)))))))
theorem r_value (C : Addr) : ∀ ss Q E, ss.length = 1 → rf (x_value C) ss Q E → b_circuit_value (rf (x_need C)) (wf (f_value_from 13)) E (slots0 N_circuit_value ss) (enD Q) :=
  runX_ok (w := b_circuit_value (rf (x_need C)) (wf (f_value_from 13))) fun Ex => sxSeq (sxDrop (sLen (spD_ sVar spNil))) (sxLift (sRet (sCall (sLen (spD_ sVar (spD_ sC spNil))))))
def x_many (C : Addr) : XFn := runX 1 N_many_true (xSeq (xDrop (x_need C) (eLen 1 (epD (eVar 0) epNil))) (xLift (eSeq (eAsg 1 (evD (eC (.int 0)))) (eSeq (eFor (eIL (eCall f_all_fillings (eLen 1 (epD (eCl lenD (eCons (e2 ixD (eVar 0) (eC (.int 0))) eNil)) epNil)))) (gN 2) (eAug 1 (eCl intD (eCons (e2 ixD (eCall f_values_for (eLen 2 (epD (e2 ixD (eVar 0) (eC (.int 1))) (epD (eVar 2) epNil)))) (eNeg (eC (.int 1)))) eNil)))) (eRet (eVar 1))))))
theorem r_many (C : Addr) : ∀ ss Q E, ss.length = 1 → rf (x_many C) ss Q E → b_many_true (rf (x_need C)) (wf f_all_fillings) (wf f_values_for) E (slots0 N_many_true ss) (enD Q) :=
  runX_ok (w := b_many_true (rf (x_need C)) (wf f_all_fillings) (wf f_values_for)) fun Ex => sxSeq (sxDrop (sLen (spD_ sVar spNil))) (sxLift (sSeq (sAsg (svD sC)) (sSeq (sFor (sIL (sCall (sLen (spD_ (sCl (sCons (s2 sVar sC) sNil)) spNil)))) (sAug (sCl (sCons (s2 (sCall (sLen (spD_ (s2 sVar sC) (spD_ sVar spNil)))) (sNeg sC)) sNil)))) (sRet sVar))))
end K66
set_option maxRecDepth 100000
set_option maxHeartbeats 4000000
namespace K66
open PySem PySem.Spec L2 DL DR
theorem x_is_filling_value (x : PyData) (hs : sm x = true) : f_is_filling_value [x] = some (.bool (match x with | .str z => among z "ft" | _ => false)) := by
  cases x <;> simp [f_is_filling_value, e_is_filling_value, N_is_filling_value, runF, outD, slots0, eVar, eC, e1, e2, eNeg, eTst, eNot, eAnd, eOr, eNotV, eAndV, eOrV, eIf, eIsi, eNil, eCons, eCl, eTup, eLst, eAsL, eBor, eBorT, eNoO, eO, eSl, eStep, eZipL, eMt, eChain, eGetO, eIxO, eIL, eIT, eIS, eEnT, eR1, eListOf, eYes, eLc, eLc2, epNil, epD, eLen, eCall, evD, evL, evDisp, evNil, evCons, eNext, eBrk, eCnt, eSeq, eRet, eDrop, eIfS, eFrz, eAsg, ePar, eAsgG, eApp, eExt, ePop, eAug, eFor, unAll, frz, gtB, gtI, gtL, gtT, gtS, negD, asD, x_is_word_of _ _ hs]
theorem y_need (C : Addr) (t : PyData) (hs : sm t = true) : x_need C [t] = some (if circOk t = true then .inl .none else .inr (C, t)) := by
  cases h : circOk t <;> simp [x_need, N_need_circuit, runX, outX, xIfS, xRaise, xLift, runF, outD, slots0, eVar, eC, e1, e2, eNeg, eTst, eNot, eAnd, eOr, eNotV, eAndV, eOrV, eIf, eIsi, eNil, eCons, eCl, eTup, eLst, eAsL, eBor, eBorT, eNoO, eO, eSl, eStep, eZipL, eMt, eChain, eGetO, eIxO, eIL, eIT, eIS, eEnT, eR1, eListOf, eYes, eLc, eLc2, epNil, epD, eLen, eCall, evD, evL, evDisp, evNil, evCons, eNext, eBrk, eCnt, eSeq, eRet, eDrop, eIfS, eFrz, eAsg, ePar, eAsgG, eApp, eExt, ePop, eAug, eFor, unAll, frz, gtB, gtI, gtL, gtT, gtS, negD, asD, x_is_circuit_value t hs, h]
/-- a circuit told by its letters and gates -/
def circ (l : List Bool) (gs : List PyData) : PyData := .tuple [.str (es l), .tuple gs]
structure CircOk (l : List Bool) (gs : List PyData) : Prop where
  l12 : l.length ≤ 12
  g64 : gs.length ≤ 64
  ne : gs ≠ []
  ok : gatesOk (l.length : Nat) gs 0 = true
  sm : sm (circ l gs) = true
theorem CircOk.is {l : List Bool} {gs : List PyData} (h : CircOk l gs) : circOk (circ l gs) = true := by
  have := h.ne
  have := h.ok
  cases gs <;> simp_all [circOk, circ, es_among, es_len]
theorem y_value (C : Addr) {l : List Bool} {gs : List PyData} (h : CircOk l gs) : x_value C [circ l gs] = some (.inl (.bool (tv (gv gs) l []))) := by
  have h1 := x_value_from h.g64 h.ne (12 - l.length) l [] [] rfl (by have := h.l12; simp; omega) h.ok
  have h2 : 12 - l.length + l.length + 1 = 13 := by have := h.l12; omega
  rw [h2] at h1
  have h3 := y_need C _ h.sm
  rw [h.is, if_pos rfl] at h3
  have h4 : Str.ofString "" = fs [] := fs_nil
  simp only [List.nil_append] at h1
  simp [x_value, N_circuit_value, runX, outX, xSeq, xDrop, xLift, runF, outD, slots0, eVar, eC, e1, e2, eNeg, eTst, eNot, eAnd, eOr, eNotV, eAndV, eOrV, eIf, eIsi, eNil, eCons, eCl, eTup, eLst, eAsL, eBor, eBorT, eNoO, eO, eSl, eStep, eZipL, eMt, eChain, eGetO, eIxO, eIL, eIT, eIS, eEnT, eR1, eListOf, eYes, eLc, eLc2, epNil, epD, eLen, eCall, evD, evL, evDisp, evNil, evCons, eNext, eBrk, eCnt, eSeq, eRet, eDrop, eIfS, eFrz, eAsg, ePar, eAsgG, eApp, eExt, ePop, eAug, eFor, unAll, frz, gtB, gtI, gtL, gtT, gtS, negD, asD, h3]
  rw [h4]
  unfold circ
  rw [h1]
  simp [outX]
theorem fs_among (fl : List Bool) : among (fs fl) "ft" = true := by
  have ft : ("ft" : Str).cps.toList = [102, 116] := by decide +kernel
  simp only [among, ft, fs_cps, List.all_map]
  rw [List.all_eq_true]
  intro b _
  cases b <;> rfl
theorem fs_sm {fl : List Bool} (h : fl.length ≤ 64) : sm (.str (fs fl)) = true := by
  simp only [sm, fs_ok, fs_len, Bool.true_and, decide_eq_true_eq]; omega
theorem y_after (C C' : Addr) {l : List Bool} {gs : List PyData} (h : CircOk l gs) (pre q fl : List Bool) (hl : l = pre ++ q) (hp : pre.length = fl.length) : x_after C C' [circ l gs, .str (fs fl)] = some (.inl (.bool (tv (gv gs) q fl))) := by
  subst hl
  have h0 := h.l12
  have h5 : fl.length ≤ 12 := by simp at h0; omega
  have h1 := x_value_from h.g64 h.ne (12 - q.length) q pre fl hp (by omega) h.ok
  have h2 : 12 - q.length + q.length + 1 = 13 := by simp at h0; omega
  rw [h2] at h1
  have h3 := y_need C _ h.sm
  rw [h.is, if_pos rfl] at h3
  have h6 := x_is_filling_value _ (fs_sm (show fl.length ≤ 64 by omega))
  simp only [fs_among] at h6
  have h7 : gtD (.int fl.length) (.int ((pre.length : Int) + (q.length : Int))) = some (.bool false) := by
    simp [gtD, i2]; omega
  have h8 : ixD (circ (pre ++ q) gs) (.int 0) = some (.str (es (pre ++ q))) := ix0
  have h9 := len_es (show (pre ++ q).length ≤ 64 by omega)
  have h10 := len_fs (show fl.length ≤ 64 by omega)
  simp only [x_after, N_circuit_after, runX, xSeq, xDrop, xIfS, xLift, slots0, List.map, List.length, List.replicate, Nat.reduceAdd, Nat.reduceSub, List.cons_append, List.nil_append, if_true]
  simp [outX, runF, outD, slots0, eVar, eC, e1, e2, eNeg, eTst, eNot, eAnd, eOr, eNotV, eAndV, eOrV, eIf, eIsi, eNil, eCons, eCl, eTup, eLst, eAsL, eBor, eBorT, eNoO, eO, eSl, eStep, eZipL, eMt, eChain, eGetO, eIxO, eIL, eIT, eIS, eEnT, eR1, eListOf, eYes, eLc, eLc2, epNil, epD, eLen, eCall, evD, evL, evDisp, evNil, evCons, eNext, eBrk, eCnt, eSeq, eRet, eDrop, eIfS, eFrz, eAsg, ePar, eAsgG, eApp, eExt, ePop, eAug, eFor, unAll, frz, gtB, gtI, gtL, gtT, gtS, negD, asD, h3, h6, h8, h9, h10]
  rw [h7]
  simp [outX, runF, outD, slots0, eVar, eC, e1, e2, eNeg, eTst, eNot, eAnd, eOr, eNotV, eAndV, eOrV, eIf, eIsi, eNil, eCons, eCl, eTup, eLst, eAsL, eBor, eBorT, eNoO, eO, eSl, eStep, eZipL, eMt, eChain, eGetO, eIxO, eIL, eIT, eIS, eEnT, eR1, eListOf, eYes, eLc, eLc2, epNil, epD, eLen, eCall, evD, evL, evDisp, evNil, evCons, eNext, eBrk, eCnt, eSeq, eRet, eDrop, eIfS, eFrz, eAsg, ePar, eAsgG, eApp, eExt, ePop, eAug, eFor, unAll, frz, gtB, gtI, gtL, gtT, gtS, negD, asD]
  unfold circ
  rw [h1]
  simp [outX]
end K66
set_option maxRecDepth 100000
set_option maxHeartbeats 4000000
namespace K66
open PySem PySem.Spec L2 DL DR
theorem y_after_bad (C C' : Addr) (t u : PyData) (hs : sm t = true) (h : circOk t = false) : x_after C C' [t, u] = some (.inr (C, t)) := by
  have h3 := y_need C t hs
  rw [h, if_neg Bool.false_ne_true] at h3
  simp [x_after, N_circuit_after, runX, xSeq, xDrop, outX, runF, outD, slots0, eVar, eC, e1, e2, eNeg, eTst, eNot, eAnd, eOr, eNotV, eAndV, eOrV, eIf, eIsi, eNil, eCons, eCl, eTup, eLst, eAsL, eBor, eBorT, eNoO, eO, eSl, eStep, eZipL, eMt, eChain, eGetO, eIxO, eIL, eIT, eIS, eEnT, eR1, eListOf, eYes, eLc, eLc2, epNil, epD, eLen, eCall, evD, evL, evDisp, evNil, evCons, eNext, eBrk, eCnt, eSeq, eRet, eDrop, eIfS, eFrz, eAsg, ePar, eAsgG, eApp, eExt, ePop, eAug, eFor, unAll, frz, gtB, gtI, gtL, gtT, gtS, negD, asD, h3]
theorem y_value_bad (C : Addr) (t : PyData) (hs : sm t = true) (h : circOk t = false) : x_value C [t] = some (.inr (C, t)) := by
  have h3 := y_need C t hs
  rw [h, if_neg Bool.false_ne_true] at h3
  simp [x_value, N_circuit_value, runX, xSeq, xDrop, outX, runF, outD, slots0, eVar, eC, e1, e2, eNeg, eTst, eNot, eAnd, eOr, eNotV, eAndV, eOrV, eIf, eIsi, eNil, eCons, eCl, eTup, eLst, eAsL, eBor, eBorT, eNoO, eO, eSl, eStep, eZipL, eMt, eChain, eGetO, eIxO, eIL, eIT, eIS, eEnT, eR1, eListOf, eYes, eLc, eLc2, epNil, epD, eLen, eCall, evD, evL, evDisp, evNil, evCons, eNext, eBrk, eCnt, eSeq, eRet, eDrop, eIfS, eFrz, eAsg, ePar, eAsgG, eApp, eExt, ePop, eAug, eFor, unAll, frz, gtB, gtI, gtL, gtT, gtS, negD, asD, h3]
theorem y_many_bad (C : Addr) (t : PyData) (hs : sm t = true) (h : circOk t = false) : x_many C [t] = some (.inr (C, t)) := by
  have h3 := y_need C t hs
  rw [h, if_neg Bool.false_ne_true] at h3
  simp [x_many, N_many_true, runX, xSeq, xDrop, outX, runF, outD, slots0, eVar, eC, e1, e2, eNeg, eTst, eNot, eAnd, eOr, eNotV, eAndV, eOrV, eIf, eIsi, eNil, eCons, eCl, eTup, eLst, eAsL, eBor, eBorT, eNoO, eO, eSl, eStep, eZipL, eMt, eChain, eGetO, eIxO, eIL, eIT, eIS, eEnT, eR1, eListOf, eYes, eLc, eLc2, epNil, epD, eLen, eCall, evD, evL, evDisp, evNil, evCons, eNext, eBrk, eCnt, eSeq, eRet, eDrop, eIfS, eFrz, eAsg, ePar, eAsgG, eApp, eExt, ePop, eAug, eFor, unAll, frz, gtB, gtI, gtL, gtT, gtS, negD, asD, h3]
/-- no filling for a circuit of n letters -/
def noFill (n : Nat) : PyData → Bool
  | .str z => !among z "ft" || decide (n < z.length)
  | _ => true
theorem y_after_odd (C C' : Addr) {l : List Bool} {gs : List PyData} (h : CircOk l gs) (u : PyData) (hu : sm u = true) (hn : noFill l.length u = true) : x_after C C' [circ l gs, u] = some (.inr (C', u)) := by
  have h0 := h.l12
  have h3 := y_need C _ h.sm
  rw [h.is, if_pos rfl] at h3
  have h6 := x_is_filling_value u hu
  have h8 : ixD (circ l gs) (.int 0) = some (.str (es l)) := ix0
  have h9 := len_es (show l.length ≤ 64 by omega)
  cases u with
  | str z =>
    by_cases hz : among z "ft" = true
    · have h10 := len_s (sm_str hu).2
      have h11 : l.length < z.length := by simpa [noFill, hz] using hn
      have h7 : gtD (.int z.length) (.int (l.length : Int)) = some (.bool true) := by
        simp [gtD, i2]; exact h11
      simp [x_after, N_circuit_after, runX, xSeq, xDrop, xIfS, xRaise, xLift, outX, runF, outD, slots0, eVar, eC, e1, e2, eNeg, eTst, eNot, eAnd, eOr, eNotV, eAndV, eOrV, eIf, eIsi, eNil, eCons, eCl, eTup, eLst, eAsL, eBor, eBorT, eNoO, eO, eSl, eStep, eZipL, eMt, eChain, eGetO, eIxO, eIL, eIT, eIS, eEnT, eR1, eListOf, eYes, eLc, eLc2, epNil, epD, eLen, eCall, evD, evL, evDisp, evNil, evCons, eNext, eBrk, eCnt, eSeq, eRet, eDrop, eIfS, eFrz, eAsg, ePar, eAsgG, eApp, eExt, ePop, eAug, eFor, unAll, frz, gtB, gtI, gtL, gtT, gtS, negD, asD, h3, h6, hz, h8, h9, h10, h7]
    · simp only [Bool.not_eq_true] at hz
      simp [x_after, N_circuit_after, runX, xSeq, xDrop, xIfS, xRaise, xLift, outX, runF, outD, slots0, eVar, eC, e1, e2, eNeg, eTst, eNot, eAnd, eOr, eNotV, eAndV, eOrV, eIf, eIsi, eNil, eCons, eCl, eTup, eLst, eAsL, eBor, eBorT, eNoO, eO, eSl, eStep, eZipL, eMt, eChain, eGetO, eIxO, eIL, eIT, eIS, eEnT, eR1, eListOf, eYes, eLc, eLc2, epNil, epD, eLen, eCall, evD, evL, evDisp, evNil, evCons, eNext, eBrk, eCnt, eSeq, eRet, eDrop, eIfS, eFrz, eAsg, ePar, eAsgG, eApp, eExt, ePop, eAug, eFor, unAll, frz, gtB, gtI, gtL, gtT, gtS, negD, asD, h3, h6, hz]
  | _ => simp [x_after, N_circuit_after, runX, xSeq, xDrop, xIfS, xRaise, xLift, outX, runF, outD, slots0, eVar, eC, e1, e2, eNeg, eTst, eNot, eAnd, eOr, eNotV, eAndV, eOrV, eIf, eIsi, eNil, eCons, eCl, eTup, eLst, eAsL, eBor, eBorT, eNoO, eO, eSl, eStep, eZipL, eMt, eChain, eGetO, eIxO, eIL, eIT, eIS, eEnT, eR1, eListOf, eYes, eLc, eLc2, epNil, epD, eLen, eCall, evD, evL, evDisp, evNil, evCons, eNext, eBrk, eCnt, eSeq, eRet, eDrop, eIfS, eFrz, eAsg, ePar, eAsgG, eApp, eExt, ePop, eAug, eFor, unAll, frz, gtB, gtI, gtL, gtT, gtS, negD, asD, h3, h6]
end K66
set_option maxRecDepth 100000
set_option maxHeartbeats 4000000
namespace K66
open PySem PySem.Spec L2 DL DR
def cnt (l : List Bool) : Int := (l.filter id).length
theorem y_many (C : Addr) {l : List Bool} {gs : List PyData} (h : CircOk l gs) : x_many C [circ l gs] = some (.inl (.int (cnt (rowD gs l.length)))) := by
  have h0 := h.l12
  have h3 := y_need C _ h.sm
  rw [h.is, if_pos rfl] at h3
  have h8 : ixD (circ l gs) (.int 0) = some (.str (es l)) := ix0
  have h9 := len_es (show l.length ≤ 64 by omega)
  have h10 := x_all_fillings l.length h0
  have go : ∀ (X : List (List Bool)) (k : Int) (s : Sl), (∀ x ∈ X, x.length = l.length) → ∃ s', forF (gN 2) (eAug 1 (eCl intD (eCons (e2 ixD (eCall f_values_for (eLen 2 (epD (e2 ixD (eVar 0) (eC (.int 1))) (epD (eVar 2) epNil)))) (e1 negD (eC (.int 1)))) eNil))) (fsD X) [Sl.d (circ l gs), .d (.int k), s] = some (.nx [Sl.d (circ l gs), .d (.int (k + cnt (X.map (gv gs)))), s']) := by
    intro X
    induction X with
    | nil => intro k s _; exact ⟨s, by simp [fsD, forF, cnt]⟩
    | cons x X ih =>
      intro k s hX
      have h1 := x_values_for (m := l.length) h.ok (hX x List.mem_cons_self) (by omega) h.g64
      have h2 := last_bs (vals_ne h.ne x)
      have h7 : ixD (circ l gs) (.int 1) = some (.tuple gs) := ix1
      have e1 : fsD (x :: X) = .str (fs x) :: fsD X := rfl
      obtain ⟨s', h4⟩ := ih (k + (if gv gs x = true then 1 else 0)) (.d (.str (fs x))) fun y hy => hX y (List.mem_cons_of_mem _ hy)
      refine ⟨s', ?_⟩
      have h5 : k + cnt ((x :: X).map (gv gs)) = k + (if gv gs x = true then 1 else 0) + cnt (X.map (gv gs)) := by
        cases hg : gv gs x <;> simp [cnt, hg] <;> omega
      rw [h5, ← h4, e1, forF]
      have h6 : intD [.bool (gv gs x)] = some (.int (if gv gs x = true then 1 else 0)) := by cases gv gs x <;> rfl
      have h12 : ixD (.list ((vals x gs []).map .bool)) (.int (-1)) = some (.bool (gv gs x)) := by rw [ixl]; exact h2
      simp [eAug, eCl, eCons, e2, eCall, eLen, epD, epNil, eVar, eC, DL.e1, negD, eNil, gN, h7, h1, h12, h6, gtI]
  obtain ⟨s', h4⟩ := go (exts l.length) 0 .un fun x hx => exts_mem hx
  simp only [Int.zero_add] at h4
  simp [x_many, N_many_true, runX, xSeq, xDrop, xLift, outX, runF, outD, slots0, eVar, eC, e1, e2, eNeg, eTst, eNot, eAnd, eOr, eNotV, eAndV, eOrV, eIf, eIsi, eNil, eCons, eCl, eTup, eLst, eAsL, eBor, eBorT, eNoO, eO, eSl, eStep, eZipL, eMt, eChain, eGetO, eIxO, eIL, eIT, eIS, eEnT, eR1, eListOf, eYes, eLc, eLc2, epNil, epD, eLen, eCall, evD, evL, evDisp, evNil, evCons, eNext, eBrk, eCnt, eSeq, eRet, eDrop, eIfS, eFrz, eAsg, ePar, eAsgG, eApp, eExt, ePop, eAug, eFor, unAll, frz, gtB, gtI, gtL, gtT, gtS, negD, asD, h3, h8, h9, h10]
  rw [h4]
  simp [outX, rowD]
end K66
set_option maxRecDepth 100000
set_option maxHeartbeats 4000000
namespace K66
open PySem PySem.Spec L2 DL DR
def lsT : Env' → Option Bool := (eBorT 2 (eTst (e2 neD (eVar 2) (eAsL (eLst eNil)))))
def lsB : Env' → Option Out := (eSeq (ePop 2 (gT 2 (gC (gN 3) (gC (gN 4) gNs)))) (eIfS (eTst (eIsi (fun d => isTup d || isList d) (eVar 3))) (eSeq (eIfS (eOr (eNot (eTst (eIsi (fun d => isTup d || isList d) (eVar 4)))) (eOr (eTst (e2 neD (eIsi isTup (eVar 3)) (eIsi isTup (eVar 4)))) (eTst (e2 neD (eCl lenD (eCons (eVar 3) eNil)) (eCl lenD (eCons (eVar 4) eNil)))))) (eRet (eC (.bool false))) eNext) (eExt 2 (eAsL (eZipL (eVar 3) (eVar 4))))) (eIfS (eTst (eIsi (fun d => isInt d || isStr d) (eVar 3))) (eIfS (eOr (eNot (eTst (eIsi (fun d => isInt d || isStr d) (eVar 4)))) (eOr (eTst (e2 neD (eIsi isBool (eVar 3)) (eIsi isBool (eVar 4)))) (eTst (e2 neD (eVar 3) (eVar 4))))) (eRet (eC (.bool false))) eNext) (eIfS (eOr (eTst (e2 (isND true) (eVar 3) (eC .none))) (eTst (e2 (isND true) (eVar 4) (eC .none)))) (eRet (eC (.bool false))) eNext))))
/-- a truth or a number -/
def flat : PyData → Bool
  | .bool _ => true
  | .int _ => true
  | _ => false
def twin (xs : List PyData) : List PyData := xs.map fun x => .tuple [x, x]
theorem twin_lay : ∀ xs : List PyData, xs.all flat = true → PyData.canLayAll0 (twin xs) = true
  | [], _ => rfl
  | x :: xs, h => by
    simp only [List.all_cons, Bool.and_eq_true] at h
    have := twin_lay xs h.2
    cases x <;> simp_all [twin, PyData.canLayAll0, PyData.canLay0, flat]
theorem ls_test {xs : List PyData} (h : xs.all flat = true) (a b c d : Sl) : lsT [a, b, .l (twin xs), c, d] = some (!xs.isEmpty) := by
  have h1 := nel (d := .list (twin xs)) (by simpa [PyData.canLay0] using twin_lay xs h)
  simp [lsT, runF, outD, slots0, eVar, eC, e1, e2, eNeg, eTst, eNot, eAnd, eOr, eNotV, eAndV, eOrV, eIf, eIsi, eNil, eCons, eCl, eTup, eLst, eAsL, eBor, eBorT, eNoO, eO, eSl, eStep, eZipL, eMt, eChain, eGetO, eIxO, eIL, eIT, eIS, eEnT, eR1, eListOf, eYes, eLc, eLc2, epNil, epD, eLen, eCall, evD, evL, evDisp, evNil, evCons, eNext, eBrk, eCnt, eSeq, eRet, eDrop, eIfS, eFrz, eAsg, ePar, eAsgG, eApp, eExt, ePop, eAug, eFor, gN, gNs, gC, gT, unAll, frz, gtB, gtI, gtL, gtT, gtS, negD, asD, h1]
  cases xs <;> rfl
theorem ls_body {xs : List PyData} {x : PyData} (h : flat x = true) (a b c d : Sl) : lsB [a, b, .l (twin (xs ++ [x])), c, d] = some (.nx [a, b, .l (twin xs), .d x, .d x]) := by
  have e : twin (xs ++ [x]) = twin xs ++ [.tuple [x, x]] := by simp [twin]
  rw [e]
  cases x with
  | bool v => simp [lsB, runF, outD, slots0, eVar, eC, e1, e2, eNeg, eTst, eNot, eAnd, eOr, eNotV, eAndV, eOrV, eIf, eIsi, eNil, eCons, eCl, eTup, eLst, eAsL, eBor, eBorT, eNoO, eO, eSl, eStep, eZipL, eMt, eChain, eGetO, eIxO, eIL, eIT, eIS, eEnT, eR1, eListOf, eYes, eLc, eLc2, epNil, epD, eLen, eCall, evD, evL, evDisp, evNil, evCons, eNext, eBrk, eCnt, eSeq, eRet, eDrop, eIfS, eFrz, eAsg, ePar, eAsgG, eApp, eExt, ePop, eAug, eFor, gN, gNs, gC, gT, unAll, frz, gtB, gtI, gtL, gtT, gtS, negD, asD, isTup, isList, isInt, isStr, isBool, neb]
  | int v => simp [lsB, runF, outD, slots0, eVar, eC, e1, e2, eNeg, eTst, eNot, eAnd, eOr, eNotV, eAndV, eOrV, eIf, eIsi, eNil, eCons, eCl, eTup, eLst, eAsL, eBor, eBorT, eNoO, eO, eSl, eStep, eZipL, eMt, eChain, eGetO, eIxO, eIL, eIT, eIS, eEnT, eR1, eListOf, eYes, eLc, eLc2, epNil, epD, eLen, eCall, evD, evL, evDisp, evNil, evCons, eNext, eBrk, eCnt, eSeq, eRet, eDrop, eIfS, eFrz, eAsg, ePar, eAsgG, eApp, eExt, ePop, eAug, eFor, gN, gNs, gC, gT, unAll, frz, gtB, gtI, gtL, gtT, gtS, negD, asD, isTup, isList, isInt, isStr, isBool, nei, neb]
  | _ => simp [flat] at h
theorem ls_loop (a b : Sl) : ∀ (n : Nat) (xs : List PyData) (c d : Sl), xs.length = n → xs.all flat = true → ∃ c' d', whileF lsT lsB (n + 1) [a, b, .l (twin xs), c, d] = some (.nx [a, b, .l [], c', d'])
  | 0, xs, c, d, hl, h => by
    have : xs = [] := List.length_eq_zero_iff.mp hl
    subst this
    refine ⟨c, d, ?_⟩
    rw [whileF, ls_test h]
    rfl
  | n + 1, xs, c, d, hl, h => by
    have hne : xs ≠ [] := by intro e; rw [e] at hl; simp at hl
    obtain ⟨ys, y, rfl⟩ : ∃ ys y, xs = ys ++ [y] := ⟨xs.dropLast, xs.getLast hne, (List.dropLast_concat_getLast hne).symm⟩
    have h2 := h
    simp only [List.all_append, List.all_cons, List.all_nil, Bool.and_true, Bool.and_eq_true] at h2
    obtain ⟨c', d', h3⟩ := ls_loop a b n ys (.d y) (.d y) (by simpa using hl) h2.1
    refine ⟨c', d', ?_⟩
    rw [whileF, ls_test h]
    simp only [Option.bind_some, ls_body h2.2]
    simpa using h3
theorem neb_tt : neD (.bool true) (.bool true) = some (.bool false) := by rw [neb]; rfl
theorem ls_first {xs : List PyData} (hl : xs.length ≤ 64) (a b c d : Sl) : lsB [a, b, .l [.tuple [.list xs, .list xs]], c, d] = some (.nx [a, b, .l (twin xs), .d (.list xs), .d (.list xs)]) := by
  have h1 : lenD [.list xs] = some (.int xs.length) := rfl
  have h2 : zipD xs xs = twin xs := by
    unfold zipD twin
    induction xs with
    | nil => rfl
    | cons x xs ih => rw [List.zip_cons_cons, List.map_cons, List.map_cons, ih (by simp at hl; omega) rfl]
  have h3 : (twin xs).length ≤ sizeLine := by simp [twin]; exact line64 hl
  simp [lsB, runF, outD, slots0, eVar, eC, e1, e2, eNeg, eTst, eNot, eAnd, eOr, eNotV, eAndV, eOrV, eIf, eIsi, eNil, eCons, eCl, eTup, eLst, eAsL, eBor, eBorT, eNoO, eO, eSl, eStep, eZipL, eMt, eChain, eGetO, eIxO, eIL, eIT, eIS, eEnT, eR1, eListOf, eYes, eLc, eLc2, epNil, epD, eLen, eCall, evD, evL, evDisp, evNil, evCons, eNext, eBrk, eCnt, eSeq, eRet, eDrop, eIfS, eFrz, eAsg, ePar, eAsgG, eApp, eExt, ePop, eAug, eFor, gN, gNs, gC, gT, unAll, frz, gtB, gtI, gtL, gtT, gtS, negD, asD, isTup, isList, neb, nei, h1, h2, h3, listD]
theorem x__law_same {xs : List PyData} (h : xs.all flat = true) (hl : xs.length ≤ 64) : f__law_same [.list xs, .list xs] = some (.bool true) := by
  obtain ⟨c', d', h1⟩ := ls_loop (.d (.list xs)) (.d (.list xs)) xs.length xs (.d (.list xs)) (.d (.list xs)) rfl h
  have h9 : (1 : Nat) ≤ sizeLine := line64 (by decide)
  have h8 : (2 : Nat) ≤ sizeLine := line64 (by decide)
  have hlay : xs.all flat = true → PyData.canLayAll0 xs = true := by
    clear h1 h hl
    induction xs with
    | nil => intro _; rfl
    | cons x xs ih =>
      intro h
      simp only [List.all_cons, Bool.and_eq_true] at h
      have := ih h.2
      cases x <;> simp_all [PyData.canLayAll0, PyData.canLay0, flat]
  have h3 : lsT [.d (.list xs), .d (.list xs), .l [.tuple [.list xs, .list xs]], .un, .un] = some true := by
    have h4 := nel (d := .list [.tuple [.list xs, .list xs]]) (by simp [PyData.canLay0, PyData.canLayAll0, hlay h])
    simp [lsT, runF, outD, slots0, eVar, eC, e1, e2, eNeg, eTst, eNot, eAnd, eOr, eNotV, eAndV, eOrV, eIf, eIsi, eNil, eCons, eCl, eTup, eLst, eAsL, eBor, eBorT, eNoO, eO, eSl, eStep, eZipL, eMt, eChain, eGetO, eIxO, eIL, eIT, eIS, eEnT, eR1, eListOf, eYes, eLc, eLc2, epNil, epD, eLen, eCall, evD, evL, evDisp, evNil, evCons, eNext, eBrk, eCnt, eSeq, eRet, eDrop, eIfS, eFrz, eAsg, ePar, eAsgG, eApp, eExt, ePop, eAug, eFor, gN, gNs, gC, gT, unAll, frz, gtB, gtI, gtL, gtT, gtS, negD, asD, h4]
    rfl
  have h5 : whileF lsT lsB (xs.length + 1 + 1) [.d (.list xs), .d (.list xs), .l [.tuple [.list xs, .list xs]], .un, .un] = some (.nx [.d (.list xs), .d (.list xs), .l [], c', d']) := by
    rw [whileF, h3]
    simp only [Option.bind_some, ls_first hl]
    simpa using h1
  have h6 := eWhile_is h5 (by omega)
  unfold lsT lsB at h6
  simp only [f__law_same, e__law_same, N__law_same, runF, slots0, eSeq, eAsg, evL, eLst, eCons, eTup, eNil, eVar, List.map, List.length, List.replicate, Nat.reduceAdd, Nat.reduceSub, List.cons_append, List.nil_append, if_true, List.getElem?_cons_zero, List.getElem?_cons_succ, Option.bind_some, Option.map_some, List.set, if_pos h8, if_pos h9]
  rw [h6]
  simp [runF, outD, slots0, eVar, eC, e1, e2, eNeg, eTst, eNot, eAnd, eOr, eNotV, eAndV, eOrV, eIf, eIsi, eNil, eCons, eCl, eTup, eLst, eAsL, eBor, eBorT, eNoO, eO, eSl, eStep, eZipL, eMt, eChain, eGetO, eIxO, eIL, eIT, eIS, eEnT, eR1, eListOf, eYes, eLc, eLc2, epNil, epD, eLen, eCall, evD, evL, evDisp, evNil, evCons, eNext, eBrk, eCnt, eSeq, eRet, eDrop, eIfS, eFrz, eAsg, ePar, eAsgG, eApp, eExt, ePop, eAug, eFor, unAll, frz, gtB, gtI, gtL, gtT, gtS, negD, asD]
end K66
set_option maxRecDepth 100000
set_option maxHeartbeats 4000000
namespace K66
open PySem PySem.Spec L2 DL DR
/-! draws: any number below -/
def cD : WF := fun ss Q _ => ∃ many : Int, ss = [.dk, .d (.int many)] ∧ 1 ≤ many ∧ many ≤ 2 ^ 40 ∧ ∀ z : Int, 0 ≤ z → z < many → Q (.int z)
theorem m_cD : MonoF cD := fun ss Q Q' E E' k l ⟨m, e, h1, h2, h⟩ => ⟨m, e, h1, h2, fun z a b => k _ (h z a b)⟩
theorem cD_is {m : Int} {Q E} : cD [.dk, .d (.int m)] Q E ↔ 1 ≤ m ∧ m ≤ 2 ^ 40 ∧ ∀ z : Int, 0 ≤ z → z < m → Q (.int z) := by
  constructor
  · rintro ⟨m', e, h1, h2, h⟩
    cases e
    exact ⟨h1, h2, h⟩
  · rintro ⟨h1, h2, h⟩; exact ⟨m, rfl, h1, h2, h⟩
def drawT : WS := (wSeq (wAsg 2 (vD (w2 modD (wCl intD (wCons (w2 addD (w2 mulQD (wVar 2) (wC (.int 39373))) (wC (.int 77))) wNil)) (wC (.int 2147483647))))) (wSeq (wAsg 2 (vD (w2 modD (wCl intD (wCons (w2 addD (w2 addD (w2 mulQD (wVar 2) (wVar 2)) (w2 mulQD (wC (.int 52713)) (wDkI 0))) (wC (.int 31))) wNil)) (wC (.int 2147483587))))) (wRet (w2 modD (wCl intD (wCons (w2 fdivD (w2 modD (wCl intD (wCons (w2 mulQD (wVar 2) (wC (.int 40692))) wNil)) (wC (.int 2147483563))) (wC (.int 64))) wNil)) (wVar 1)))))
theorem mq {i j : Int} (h : cMul i j = true) : mulQD (.int i) (.int j) = some (.int (i * j)) := by simp [mulQD, h]
theorem cm_r {i j : Int} (h : -(2 ^ 64) < j) (h' : j < 2 ^ 64) : cMul i j = true := by
  simp only [cMul, Bool.or_eq_true, Bool.and_eq_true, decide_eq_true_eq]
  exact .inr ⟨h, h'⟩
theorem cm_l {i j : Int} (h : -(2 ^ 64) < i) (h' : i < 2 ^ 64) : cMul i j = true := by
  simp only [cMul, Bool.or_eq_true, Bool.and_eq_true, decide_eq_true_eq]
  exact .inl ⟨h, h'⟩
theorem mdq {i j : Int} (h : 0 < j) : modD (.int i) (.int j) = some (.int (i % j)) := by simp [i2, h]
theorem draw_tail {m n : Int} (h1 : 1 ≤ m) (s3 : Sl) {E : En} (h : ∀ z : Int, 0 ≤ z → z < m → E.rt (.int z)) : drawT [.dk, .d (.int m), .d (.int n), s3] E := by
  have b1 : -(2 ^ 64 : Int) < 39373 := by decide
  have b2 : (39373 : Int) < 2 ^ 64 := by decide
  have b3 : -(2 ^ 64 : Int) < 52713 := by decide
  have b4 : (52713 : Int) < 2 ^ 64 := by decide
  have b5 : -(2 ^ 64 : Int) < 40692 := by decide
  have b6 : (40692 : Int) < 2 ^ 64 := by decide
  have b7 : -(2 ^ 64 : Int) < 0 := by decide
  have b8 : (2147483647 : Int) < 2 ^ 64 := by decide
  have p1 : 0 ≤ (n * 39373 + 77) % 2147483647 := Int.emod_nonneg _ (by decide)
  have p2 : (n * 39373 + 77) % 2147483647 < 2147483647 := Int.emod_lt_of_pos _ (by decide)
  have f64 : ∀ i : Int, fdivD (.int i) (.int 64) = some (.int (i / 64)) := fun i => rfl
  simp only [drawT, wSeq, w2, wDkI, wC, wAsg, vD, wCl, wCons, wNil, wVar, wRet, List.set, List.getElem?_cons_zero, List.getElem?_cons_succ]
  refine ⟨_, rfl, _, mq (cm_r b1 b2), _, rfl, _, rfl, _, mdq (by decide), _, rfl, _, rfl, _, mq (cm_l (Int.lt_of_lt_of_le b7 p1) (Int.lt_trans p2 b8)), trivial, fun n4 => ⟨_, mq (cm_l b3 b4), _, rfl, _, rfl, _, rfl, _, mdq (by decide), _, rfl, _, mq (cm_r b5 b6), _, rfl, _, mdq (by decide), _, f64 _, _, rfl, _, rfl, _, mdq (by omega), ?_⟩⟩
  exact h _ (Int.emod_nonneg _ (by omega)) (Int.emod_lt_of_pos _ (by omega))
theorem r_draw : ∀ ss Q E, ss.length = 2 → cD ss Q E → b__law_draw (slots0 N__law_draw ss) (enD Q) := by
  rintro ss Q E - ⟨m, rfl, h1, h2, h⟩
  have b3 : -(2 ^ 64 : Int) < 61473 := by decide
  have b4 : (61473 : Int) < 2 ^ 64 := by decide
  refine ⟨rfl, rfl, fun n => ⟨_, rfl, _, rfl, rfl, fun n2 => ⟨rfl, fun n3 => ⟨_, mq (cm_l b3 b4), _, rfl, m, _, rfl, rfl, rfl, ⟨by decide, by decide, by decide, by show 3 < 4; decide⟩, h1, h2, h, fun c n4 => draw_tail h1 _ h, draw_tail h1 _ h⟩⟩⟩⟩
end K66
set_option maxRecDepth 100000
set_option maxHeartbeats 4000000
namespace K66
open PySem PySem.Spec L2 DL DR
/-- one of a list, any -/
def cPick : WF := fun ss Q _ => ∃ xs : List PyData, ss = [.dk, .d (.list xs)] ∧ xs ≠ [] ∧ xs.length ≤ 65536 ∧ ∀ x ∈ xs, Q x
theorem m_cPick : MonoF cPick := fun ss Q Q' E E' k l ⟨xs, e, h1, h2, h⟩ => ⟨xs, e, h1, h2, fun x hx => k _ (h x hx)⟩
theorem cPick_is {xs : List PyData} {Q E} (h1 : xs ≠ []) (h2 : xs.length ≤ 65536) (h : ∀ x ∈ xs, Q x) : cPick [.dk, .d (.list xs)] Q E := ⟨xs, rfl, h1, h2, h⟩
theorem r_pick : ∀ ss Q E, ss.length = 2 → cPick ss Q E → b__law_pick cD (slots0 N__law_pick ss) (enD Q) := by
  rintro ss Q E - ⟨xs, rfl, h1, h2, h⟩
  have hp : 0 < xs.length := List.length_pos_iff.mpr h1
  have hk : (65536 : Int) ≤ 2 ^ 40 := by decide
  refine ⟨.list xs, rfl, rfl, .list xs, rfl, .int xs.length, rfl, rfl, cD_is.mpr ⟨by omega, Int.le_trans (by omega) hk, fun z hz hz2 => ?_⟩⟩
  have hz3 : z.toNat < xs.length := by omega
  refine ⟨xs[z.toNat], ?_, h _ (List.getElem_mem _)⟩
  obtain ⟨k, rfl⟩ := Int.eq_ofNat_of_zero_le hz
  show atI xs (k : Int) = _
  rw [atI_nat (by omega)]
  simp
/-- a number behind which a gate stands -/
def cNear : WF := fun ss Q _ => ∃ g : Int, ss = [.dk, .d (.int g)] ∧ 1 ≤ g ∧ g ≤ 2 ^ 40 ∧ ∀ z : Int, 0 ≤ z → z < g → Q (.int z)
theorem m_cNear : MonoF cNear := m_cD
theorem r_near : ∀ ss Q E, ss.length = 2 → cNear ss Q E → b__law_near_number cD (slots0 N__law_near_number ss) (enD Q) := by
  rintro ss Q E - ⟨g, rfl, h1, h2, h⟩
  refine ⟨rfl, rfl, cD_is.mpr ⟨by decide, by decide, fun z hz hz2 => ⟨_, eqi, _, rfl, ?_⟩⟩⟩
  cases hc : (z == 0)
  · rw [if_neg Bool.false_ne_true]
    exact ⟨rfl, .int g, rfl, rfl, cD_is.mpr ⟨h1, h2, h⟩⟩
  · rw [if_pos rfl]
    refine ⟨.int g, rfl, _, rfl, rfl, rfl, cD_is.mpr ⟨by decide, by decide, fun y hy hy2 => ⟨_, rfl, _, rfl, ?_⟩⟩⟩
    refine h _ ?_ ?_ <;> split <;> omega
end K66
set_option maxRecDepth 100000
set_option maxHeartbeats 4000000
namespace K66
open PySem PySem.Spec L2 DL DR
def esD (l : List Bool) : List PyData := l.map fun b => .str (es [b])
theorem es_e1 : Str.ofString "e" = es [true] := by decide +kernel
theorem es_a1 : Str.ofString "a" = es [false] := by decide +kernel
def eaW : WE := wCall cPick (wLen 2 (pK 0 (pD (wAsL (wLst (wCons (wC (.str "e")) (wCons (wC (.str "a")) wNil)))) pNil))) noEx
theorem eaW_is {ρ : Env'} {Q : PyData → Prop} (h0 : ρ[0]? = some .dk) (h : ∀ b : Bool, Q (.str (es [b]))) : eaW ρ Q := by
  refine ⟨h0, line64 (by decide), rfl, cPick_is (by simp) (by simp) fun x hx => ?_⟩
  simp at hx
  rcases hx with rfl | rfl
  · rw [es_e1]; exact h true
  · rw [es_a1]; exact h false
theorem yes_is {ρ : Env'} {A B : Prop} (h : A) : wYes ρ fun b => if b = true then A else B := by
  show if true = true then A else B
  rw [if_pos rfl]; exact h
theorem lc_ea {ρ : Env'} {Q : List PyData → Prop} (h0 : ∀ d, ((unAll [7] ρ).set 7 (.d d))[0]? = some .dk) : ∀ (ds : List PyData) (l0 : List Bool), l0.length + ds.length ≤ 64 → (∀ l : List Bool, l.length = l0.length + ds.length → Q (esD l)) → lcD [7] (gN 7) wYes eaW ρ Q ds (esD l0)
  | [], l0, _, h => h l0 (by simp)
  | d :: ds, l0, hz, h => by
    refine ⟨_, rfl, ?_⟩
    simp only [List.length_cons] at hz h
    refine yes_is (eaW_is (h0 d) fun b => ⟨?_, ?_⟩)
    · have : (esD l0).length < 64 := by simp [esD]; omega
      exact Nat.lt_of_lt_of_le this (by decide)
    · have e : esD l0 ++ [.str (es [b])] = esD (l0 ++ [b]) := by simp [esD]
      rw [e]
      exact lc_ea h0 ds (l0 ++ [b]) (by simp; omega) fun l hl => h l (by rw [hl]; simp; omega)
end K66
set_option maxRecDepth 100000
set_option maxHeartbeats 4000000
namespace K66
open PySem PySem.Spec L2 DL DR
theorem sz_n (n : Nat) (h : n ≤ 64) : (n ≤ sizeLine) = True := eq_true (line64 h)
theorem sz0 : (0 ≤ sizeLine) = True := sz_n 0 (by decide)
theorem sz1 : (1 ≤ sizeLine) = True := sz_n _ (by decide)
theorem sz2 : (2 ≤ sizeLine) = True := sz_n _ (by decide)
theorem sz3 : (3 ≤ sizeLine) = True := sz_n _ (by decide)
theorem cNear_is {m : Int} {Q : PyData → Prop} {E : Addr → PyData → Prop} : cNear [.dk, .d (.int m)] Q E ↔ 1 ≤ m ∧ m ≤ 2 ^ 40 ∧ ∀ z : Int, 0 ≤ z → z < m → Q (.int z) := cD_is (E := E)
theorem cPick_iff {xs : List PyData} {Q E} : cPick [.dk, .d (.list xs)] Q E ↔ xs ≠ [] ∧ xs.length ≤ 65536 ∧ ∀ x ∈ xs, Q x := by
  constructor
  · rintro ⟨ys, e, h⟩; cases e; exact h
  · rintro h; exact ⟨xs, rfl, h⟩
def dgB : WS := (wSeq (wAsg 6 (vD (wCall cD (wLen 2 (pK 0 (pD (wC (.int 8)) pNil))) noEx))) (wIfS (wOr (wTst (w2 eqD (wVar 5) (wC (.int 0)))) (wTst (w2 ltD (wVar 6) (wC (.int 3))))) (wApp 4 (wIf (wOr (wTst (w2 eqD (wVar 1) (wC (.int 0)))) (wAnd (wTst (w2 eqD (wVar 6) (wC (.int 2)))) (wTst (w2 eqD (wCall cD (wLen 2 (pK 0 (pD (wC (.int 3)) pNil))) noEx) (wC (.int 0)))))) (wTup (wCons (wC (.str "yes")) wNil)) (wTup (wCons (wC (.str "v")) (wCons (wCall cD (wLen 2 (pK 0 (pD (wVar 1) pNil))) noEx) wNil))))) (wIfS (wTst (w2 eqD (wVar 6) (wC (.int 3)))) (wApp 4 (wTup (wCons (wC (.str "not")) (wCons (wCall cNear (wLen 2 (pK 0 (pD (wVar 5) pNil))) noEx) wNil)))) (wApp 4 (wTup (wCons (wCall cPick (wLen 2 (pK 0 (pD (wAsL (wLst (wCons (wC (.str "and")) (wCons (wC (.str "or")) wNil)))) pNil))) noEx) (wCons (wCall cNear (wLen 2 (pK 0 (pD (wVar 5) pNil))) noEx) (wCons (wCall cNear (wLen 2 (pK 0 (pD (wVar 5) pNil))) noEx) wNil))))))))
theorem dg_step {m g : Nat} {many : PyData} {p : Str} {gs : List PyData} {s6 s7 : Sl} {E : En} (hm : m ≤ 12) (hg : gs.length = g) (hl : g < 64) (h : ∀ (t : PyData) (s : Sl), gateOk m g t = true → E.nx [.dk, .d (.int m), .d many, .d (.str p), .l (gs ++ [t]), .d (.int g), s, s7]) : dgB [.dk, .d (.int m), .d many, .d (.str p), .l gs, .d (.int g), s6, s7] E := by
  have hz : (gs.length < sizeLine) = True := eq_true (Nat.lt_of_lt_of_le (show gs.length < 64 by omega) (by decide))
  have k40 : (64 : Int) ≤ 2 ^ 40 := by decide
  have t1 : gateOk m g (.tuple [.str "yes"]) = true := rfl
  have t2 : ∀ z : Int, 0 ≤ z → z < m → gateOk m g (.tuple [.str "v", .int z]) = true := fun z a b => by simp [gateOk, inR, a, b]
  have t3 : ∀ z : Int, 0 ≤ z → z < g → gateOk m g (.tuple [.str "not", .int z]) = true := fun z a b => by
    have e : ¬ ("not" : Str) = ("v" : Str) := by simp only [ofS_inj]; decide
    simp [gateOk, inR, a, b, e]
  have t4 : ∀ (w : Str) (y z : Int), w = "and" ∨ w = "or" → 0 ≤ z → z < g → 0 ≤ y → y < g → gateOk m g (.tuple [.str w, .int y, .int z]) = true := fun w y z h a b c d => by
    rcases h with rfl | rfl <;> simp [gateOk, inR, a, b, c, d]
  simp only [dgB, wSeq, wIfS, wRet, wAsg, vD, vL, wNext, wDrop, wCall, wLen, pK, pD, pNil, w2, w1, wVar, wC, wTst, wAnd, wOr, wNot, wIf, wAndV, wOrV, wNotV, wNil, wCons, wTup, wLst, wAsL, wIxO, wNoO, wO, wSl, wChain, wIsi, wCl, wListOf, wMt, wBor, wBorT, wFrz, wApp, wExt, wPar2, wIL, wIT, wIS, wR1, wAsgG, gN, gNs, gC, gT, frz, unAll, wNeg, negD, wRaise, List.set, List.getElem?_cons_zero, List.getElem?_cons_succ, exists_eq_left', exists_eq_left, Option.some.injEq, Sl.d.injEq, Sl.l.injEq, PyData.int.injEq, PyData.bool.injEq, PyData.str.injEq, PyData.tuple.injEq, PyData.list.injEq, and_true, true_and, List.length_cons, List.length_nil, Nat.reduceAdd, Option.map_some, Option.bind_some, if_true, if_false, Bool.false_eq_true, Bool.not_true, Bool.not_false, cD_is, cNear_is, cPick_iff, eqi, sz1, sz2, sz3, hz, ltD, i2, List.mem_cons, List.not_mem_nil, or_false]
  refine ⟨by decide, by decide, fun z h0 h1 => ?_⟩
  have hm2 : (m : Int) ≤ 2 ^ 40 := by omega
  have hg2 : (g : Int) ≤ 2 ^ 40 := by omega
  repeat' split
  all_goals simp only [beq_iff_eq, decide_eq_true_eq] at *
  · exact h _ _ t1
  · refine ⟨by decide, by decide, fun y a b => ?_⟩
    split
    · exact h _ _ t1
    · exact ⟨by omega, hm2, fun x c d => h _ _ (t2 x c d)⟩
  · exact ⟨by omega, hm2, fun x c d => h _ _ (t2 x c d)⟩
  · exact h _ _ t1
  · refine ⟨by decide, by decide, fun y a b => ?_⟩
    split
    · exact h _ _ t1
    · exact ⟨by omega, hm2, fun x c d => h _ _ (t2 x c d)⟩
  · exact ⟨by omega, hm2, fun x c d => h _ _ (t2 x c d)⟩
  · exact ⟨by omega, hg2, fun x c d => h _ _ (t3 x c d)⟩
  · refine ⟨by simp, by decide, fun w hw => ⟨by omega, hg2, fun x c d => ⟨by omega, hg2, fun y a b => ?_⟩⟩⟩
    rcases hw with rfl | rfl
    · exact h _ _ (t4 _ _ _ (.inl rfl) a b c d)
    · exact h _ _ (t4 _ _ _ (.inr rfl) a b c d)
end K66
set_option maxRecDepth 100000
set_option maxHeartbeats 4000000
namespace K66
open PySem PySem.Spec L2 DL DR
mutual
theorem fit_sm {B : Nat} : ∀ d : PyData, fit B d = true → wt d ≤ 65536 → sm d = true
  | .none, _, _ => rfl
  | .bool _, _, _ => rfl
  | .int _, _, _ => rfl
  | .str x, h, z => by simp only [fit] at h; simp only [wt] at z; simp [sm, ascii_ok h]; omega
  | .list xs, h, z => by
    simp only [fit] at h; simp only [wt] at z
    have := wts_len xs
    simp [sm, fits_sms xs h (by omega)]; omega
  | .tuple xs, h, z => by
    simp only [fit] at h; simp only [wt] at z
    have := wts_len xs
    simp [sm, fits_sms xs h (by omega)]; omega
  | .dict _, h, _ => by simp [fit] at h
theorem fits_sms {B : Nat} : ∀ ds : List PyData, fits B ds = true → wts ds ≤ 65536 → sms ds = true
  | [], _, _ => rfl
  | d :: ds, h, z => by
    simp only [fits, Bool.and_eq_true] at h
    simp only [wts] at z
    simp [sms, fit_sm d h.1 (by omega), fits_sms ds h.2 (by omega)]
end
theorem as_yes : ascii "yes" = true := by decide +kernel
theorem as_v : ascii "v" = true := by decide +kernel
theorem as_not : ascii "not" = true := by decide +kernel
theorem as_and : ascii "and" = true := by decide +kernel
theorem as_or : ascii "or" = true := by decide +kernel
theorem as_es (l : List Bool) : ascii (es l) = true := by
  unfold ascii es
  simp only [List.all_toArray, List.all_map, List.all_eq_true]
  intro b _
  cases b <;> rfl
/-- a gate of a drawn circuit, its size -/
theorem gate_fit {m g : Nat} (hm : m ≤ 64) (hg : g ≤ 64) {t : PyData} (h : gateOk m g t = true) : fit 100 t = true ∧ wt t ≤ 60 ∧ t.depth ≤ 1 := by
  have lg : ∀ k : Nat, k < 64 → k.log2 ≤ 6 := fun k hk => by
    by_cases z : k = 0
    · rw [z]; decide
    · exact Nat.le_of_lt_succ ((Nat.log2_lt z).mpr (Nat.lt_trans hk (by decide)))
  have w1 : ("yes" : Str).length = 3 := rfl
  have w2 : ("v" : Str).length = 1 := rfl
  have w3 : ("not" : Str).length = 3 := rfl
  have w4 : ("and" : Str).length = 3 := rfl
  have w5 : ("or" : Str).length = 2 := rfl
  cases gt_of h with
  | yes => refine ⟨by simp [fit, fits, as_yes], by simp [wt, wts, w1], by simp [PyData.depth, PyData.depthAll]⟩
  | v k hk => have := lg k (by omega); refine ⟨by simp [fit, fits, as_v]; omega, by simp [wt, wts, w2]; omega, by simp [PyData.depth, PyData.depthAll]⟩
  | no k hk => have := lg k (by omega); refine ⟨by simp [fit, fits, as_not]; omega, by simp [wt, wts, w3]; omega, by simp [PyData.depth, PyData.depthAll]⟩
  | an k l hk hl => have := lg k (by omega); have := lg l (by omega); refine ⟨by simp [fit, fits, as_and]; omega, by simp [wt, wts, w4]; omega, by simp [PyData.depth, PyData.depthAll]⟩
  | o k l hk hl => have := lg k (by omega); have := lg l (by omega); refine ⟨by simp [fit, fits, as_or]; omega, by simp [wt, wts, w5]; omega, by simp [PyData.depth, PyData.depthAll]⟩
theorem gates_fit {m : Nat} (hm : m ≤ 64) : ∀ (gs : List PyData) (n : Nat), n + gs.length ≤ 64 → gatesOk m gs n = true → fits 100 gs = true ∧ wts gs ≤ 62 * gs.length ∧ PyData.depthAll gs ≤ 1
  | [], n, _, _ => ⟨rfl, by simp [wts], by simp [PyData.depthAll]⟩
  | t :: gs, n, hz, h => by
    obtain ⟨h1, h2⟩ := gatesOk_cons h
    simp only [List.length_cons] at hz
    obtain ⟨a1, a2, a3⟩ := gate_fit hm (show n ≤ 64 by omega) h1
    obtain ⟨b1, b2, b3⟩ := gates_fit hm gs (n + 1) (by omega) h2
    refine ⟨by simp [fits, a1, b1], by simp [wts]; omega, by simp [PyData.depthAll]; omega⟩
theorem circ_fit {l : List Bool} {gs : List PyData} (hl : l.length ≤ 64) (hg : gs.length ≤ 64) (h : gatesOk (l.length : Nat) gs 0 = true) : fit 100 (circ l gs) = true ∧ wt (circ l gs) ≤ 662 + 62 * gs.length ∧ (circ l gs).depth ≤ 3 := by
  obtain ⟨b1, b2, b3⟩ := gates_fit hl gs 0 (by omega) h
  unfold circ
  refine ⟨by simp [fit, fits, as_es, b1], by simp only [wt, wts, es_len]; omega, by simp only [PyData.depth, PyData.depthAll]; omega⟩
theorem circ_sm {l : List Bool} {gs : List PyData} (hl : l.length ≤ 64) (hg : gs.length ≤ 64) (h : gatesOk (l.length : Nat) gs 0 = true) : sm (circ l gs) = true := by
  obtain ⟨h1, h2, _⟩ := circ_fit hl hg h
  exact fit_sm _ h1 (by omega)
theorem strs_esD : ∀ l : List Bool, strsOf (esD l) = some (l.map fun b => es [b])
  | [] => rfl
  | b :: l => by
    have := strs_esD l
    simp only [esD] at this
    simp [esD, strsOf, this]
theorem join_es (l : List Bool) : Txt.join "" (l.map fun b => es [b]) = es l := by
  have h1 : (l.map fun b => es [b]) = (l.map fun b => [if b = true then 101 else 97]).map SX.S := by simp [SX.S, es]
  have h2 : ("" : Str) = SX.S [] := by decide +kernel
  have h3 : ∀ l : List Bool, TL.joinL [] (l.map fun b => [if b = true then 101 else 97]) = l.map fun b => if b = true then 101 else 97 := by
    intro l
    induction l with
    | nil => rfl
    | cons b l ih =>
      cases l with
      | nil => rfl
      | cons c l => simp only [List.map_cons, TL.joinL] at ih ⊢; rw [ih]; rfl
  rw [h1, h2, SX.join_S, h3]
  rfl
theorem joinD_es {l : List Bool} (h : l.length ≤ 64) : joinD (.str "") [.list (esD l)] = some (.str (es l)) := by
  have h1 : ((l.map fun b => es [b]).map (·.length)).sum = l.length := by
    clear h
    induction l with
    | nil => rfl
    | cons b l ih => simp only [List.map_cons, List.sum_cons, ih, es_len, List.length_cons, List.length_nil]; omega
  have h2 : ("" : Str).length = 0 := rfl
  simp only [joinD, strs_esD, h1, h2, join_es]
  rw [if_pos (by omega)]
def cDrawn : WF := fun ss Q _ => ∃ m many : Nat, ss = [.dk, .d (.int m), .d (.int many)] ∧ m ≤ 12 ∧ 1 ≤ many ∧ many ≤ 60 ∧ ∀ (l : List Bool) (gs : List PyData), l.length = m → gs.length ≤ many → CircOk l gs → Q (circ l gs)
theorem m_cDrawn : MonoF cDrawn := fun ss Q Q' E E' k l ⟨m, n, e, h1, h2, h3, h⟩ => ⟨m, n, e, h1, h2, h3, fun l gs a b c => k _ (h l gs a b c)⟩
theorem r_drawn : ∀ ss Q E, ss.length = 3 → cDrawn ss Q E → b__law_drawn_circuit cD cPick cNear (slots0 N__law_drawn_circuit ss) (enD Q) := by
  rintro ss Q E - ⟨m, many, rfl, hm, hn1, hn2, h⟩
  have s1 : smallI (m : Int) := by unfold smallI; omega
  refine ⟨rfl, .int m, rfl, m, rfl, s1, ?_⟩
  have hr : (rangeD 0 m).length = m := by simp [rangeD]
  show lcD [7] (gN 7) wYes eaW _ _ (rangeD 0 m) (esD [])
  refine lc_ea (fun d => rfl) _ [] (by simp [hr]; omega) fun l hl => ?_
  have hl2 : l.length = m := by simpa [hr] using hl
  refine ⟨_, joinD_es (by omega), line64 (by decide), _, _, rfl, ?_⟩
  show wSeq (wFor (wR1 (w2 addD (wC (PyData.int 1)) (wCall cD (wLen 2 (pK 0 (pD (wVar 2) pNil))) noEx))) (gN 5) dgB) _ [.dk, .d (.int m), .d (.int many), .d (.str (es l)), .l [], .un, .un, .un] _
  simp only [wSeq, wFor, wR1, w2, wC, wCall, wLen, pK, pD, pNil, wVar, List.getElem?_cons_zero, List.getElem?_cons_succ, exists_eq_left', Option.some.injEq, Sl.d.injEq, true_and, List.length_cons, List.length_nil, Nat.reduceAdd, cD_is, addD, PyData.int.injEq]
  refine ⟨by omega, by omega, fun z h0 h1 => ⟨by unfold smallI; omega, ?_⟩⟩
  refine forD_rng (P := fun k ρ => ∃ (gs : List PyData) (s5 s6 : Sl), ρ = [.dk, .d (.int m), .d (.int many), .d (.str (es l)), .l gs, s5, s6, .un] ∧ gs.length = k ∧ gatesOk (m : Nat) gs 0 = true) ⟨[], .un, .un, rfl, rfl, rfl⟩ ?_ ?_
  · rintro k ρ hk ⟨gs, s5, s6, rfl, hg, ho⟩
    refine ⟨_, rfl, fun E' e1 e2 e3 e4 => ?_⟩
    show dgB [.dk, .d (.int m), .d (.int many), .d (.str (es l)), .l gs, .d (.int (0 + (k : Int))), s6, .un] E'
    rw [Int.zero_add]
    refine dg_step hm hg (by omega) fun t s ht => e2 _ ⟨gs ++ [t], _, _, rfl, by simp [hg], ?_⟩
    rw [gates_snoc, ho, hg]
    simpa using ht
  · rintro ρ ⟨gs, s5, s6, rfl, hg, ho⟩
    have ne : gs ≠ [] := by intro e; rw [e] at hg; simp at hg; omega
    have hg2 : gs.length ≤ 60 := by omega
    have hk : CircOk l gs := ⟨by omega, by omega, ne, by rw [hl2]; exact ho, circ_sm (by omega) (by omega) (by rw [hl2]; exact ho)⟩
    simp only [wFrz, wRet, wTup, wCons, wNil, wCl, wVar, frz, List.set, List.getElem?_cons_zero, List.getElem?_cons_succ, exists_eq_left', Option.some.injEq, Sl.d.injEq, tupleD, List.length_cons, List.length_nil, Nat.reduceAdd, sz2, true_and]
    exact h l gs hl2 (by omega) hk
end K66
set_option maxRecDepth 100000
set_option maxHeartbeats 4000000
namespace K66
open PySem PySem.Spec L2 DL DR
/-- what is made of t by a change at any depth -/
structure Bent (B : Nat) (t r : PyData) : Prop where
  fit : fit (B + 8) r = true
  wt : wt r ≤ 2 * wt t + 300
  dp : r.depth ≤ t.depth + 2
mutual
/-- no truth in it -/
def pl : PyData → Bool
  | .bool _ => false
  | .list xs => pls xs
  | .tuple xs => pls xs
  | _ => true
def pls : List PyData → Bool
  | [] => true
  | x :: xs => pl x && pls xs
end
theorem pls_mem : ∀ {xs : List PyData} {x : PyData}, pls xs = true → x ∈ xs → pl x = true
  | y :: ys, x, f, h => by
    simp only [pls, Bool.and_eq_true] at f
    rcases List.mem_cons.mp h with e | h
    · rw [e]; exact f.1
    · exact pls_mem f.2 h
def cBent (n : Nat) : WF := fun ss Q _ => ∃ (B : Nat) (t : PyData), ss = [.dk, .d t] ∧ B ≤ 1048576 ∧ fit B t = true ∧ pl t = true ∧ wt t ≤ 30000 ∧ t.depth ≤ n ∧ ∀ r, Bent B t r → Q r
theorem m_cBent {n : Nat} : MonoF (cBent n) := fun ss Q Q' E E' k l ⟨B, t, e, h0, h1, hp, h2, h3, h⟩ => ⟨B, t, e, h0, h1, hp, h2, h3, fun r hr => k _ (h r hr)⟩
theorem cBent_is {n : Nat} {t : PyData} {Q : PyData → Prop} {E : Addr → PyData → Prop} : cBent n [.dk, .d t] Q E ↔ ∃ B : Nat, B ≤ 1048576 ∧ fit B t = true ∧ pl t = true ∧ wt t ≤ 30000 ∧ t.depth ≤ n ∧ ∀ r, Bent B t r → Q r := by
  constructor
  · rintro ⟨B, t', e, h⟩; cases e; exact ⟨B, h⟩
  · rintro ⟨B, h⟩; exact ⟨B, t, rfl, h⟩
mutual
theorem fit_up {B C : Nat} (h : B ≤ C) : ∀ d : PyData, fit B d = true → fit C d = true
  | .none, _ => rfl
  | .bool _, _ => rfl
  | .int i, f => by simp only [fit, decide_eq_true_eq] at f ⊢; omega
  | .str _, f => f
  | .list xs, f => fits_up h xs f
  | .tuple xs, f => fits_up h xs f
  | .dict _, f => f
theorem fits_up {B C : Nat} (h : B ≤ C) : ∀ ds : List PyData, fits B ds = true → fits C ds = true
  | [], _ => rfl
  | d :: ds, f => by
    simp only [fits, Bool.and_eq_true] at f
    simp [fits, fit_up h d f.1, fits_up h ds f.2]
end
theorem as_cat {x y : Str} (h : ascii x = true) (h' : ascii y = true) : ascii (x ++ y) = true := by
  unfold ascii at *
  show (x.cps ++ y.cps).all _ = true
  rw [Array.all_append, h, h']; rfl
theorem cut_to {α : Type} {xs : List α} {i : Nat} (h : i ≤ xs.length) : cutL xs none (some (i : Int)) = xs.take i := by
  have e : HT.sIx xs.length xs.length (some (i : Int)) = i := by
    show (if (i : Int) < 0 then ((i : Int) + (xs.length : Nat)).toNat else min (i : Int).toNat xs.length) = i
    rw [if_neg (by omega)]; omega
  unfold cutL
  rw [e]
  show (xs.drop 0).take (i - 0) = _
  simp
theorem cut_from {α : Type} {xs : List α} {i : Nat} (h : i ≤ xs.length) : cutL xs (some (i : Int)) none = xs.drop i := by
  have e : HT.sIx xs.length 0 (some (i : Int)) = i := by
    show (if (i : Int) < 0 then ((i : Int) + (xs.length : Nat)).toNat else min (i : Int).toNat xs.length) = i
    rw [if_neg (by omega)]; omega
  unfold cutL
  rw [e]
  show (xs.drop i).take (xs.length - i) = _
  rw [List.take_of_length_le (by simp)]
theorem cutS_tail (z : Str) : (cutS z (some 1) none).cps.toList = z.cps.toList.drop 1 := by
  have hz : z.length = z.cps.toList.length := by simp [Str.length]
  by_cases h0 : z.length = 0
  · have : z.cps.toList = [] := by rw [hz] at h0; exact List.length_eq_zero_iff.mp h0
    simp [cutS, this]
  · have e : HT.sIx z.length 0 (some 1) = 1 := by
      show (if (1 : Int) < 0 then ((1 : Int) + (z.length : Nat)).toNat else min (1 : Int).toNat z.length) = 1
      rw [if_neg (by omega)]; simp; omega
    unfold cutS
    rw [e]
    show ((z.cps.toList.drop 1).take (z.length - 1)) = _
    rw [List.take_of_length_le (by simp [Str.length])]
theorem as_list {x : Str} : ascii x = x.cps.toList.all (· < 128) := by
  unfold ascii; rw [Array.all_toList]
theorem len_list {x : Str} : x.length = x.cps.toList.length := by simp [Str.length]
theorem as_tail {z : Str} (h : ascii z = true) : ascii (cutS z (some 1) none) = true ∧ (cutS z (some 1) none).length ≤ z.length := by
  rw [as_list, cutS_tail, len_list, cutS_tail, len_list]
  rw [as_list, List.all_eq_true] at h
  exact ⟨List.all_eq_true.mpr fun c hc => h c (List.mem_of_mem_drop hc), by simp⟩
theorem as_upper {z : Str} (h : ascii z = true) : ascii (Txt.upper z) = true ∧ (Txt.upper z).length = z.length := by
  have h1 : z = SX.S z.cps.toList := (SX.S_tl z).symm
  have h2 := h
  rw [as_list] at h2
  have h3 : Txt.upper z = SX.S (z.cps.toList.map PyProof.Rows.up1) := by
    have := SX.upper_S h2
    rw [SX.S_tl] at this
    exact this
  rw [h3]
  refine ⟨?_, by rw [SX.S_len, len_list]; simp⟩
  rw [as_list]
  show (List.map PyProof.Rows.up1 z.cps.toList).toArray.toList.all _ = true
  simp only [List.all_map, List.all_eq_true] at h2 ⊢
  intro c hc
  have := of_decide_eq_true (h2 c hc)
  simp only [Function.comp, decide_eq_true_eq]
  unfold PyProof.Rows.up1
  split <;> omega
theorem lit_as (s : String) (h : ascii (Str.ofString s) = true) : ascii (Str.ofString s) = true := h
/-- the leaves that may be picked -/
theorem bent_leaf {B : Nat} {t r : PyData} (f : fit (B + 8) r = true) (w : wt r ≤ wt t + 300) (d : r.depth ≤ 2) : Bent B t r := ⟨f, by omega, by omega⟩
theorem log_up (n k : Nat) (hk : k ≤ 8) : (n + k).log2 ≤ n.log2 + 4 := by
  have h1 : n < 2 ^ (n.log2 + 1) := Nat.lt_log2_self
  by_cases z : n + k = 0
  · rw [z]; simp
  · refine Nat.le_of_lt_succ ((Nat.log2_lt z).mpr ?_)
    have e : 2 ^ (n.log2 + 4 + 1) = 16 * 2 ^ (n.log2 + 1) := by rw [show n.log2 + 4 + 1 = (n.log2 + 1) + 4 from by omega, Nat.pow_add]; omega
    rw [e]
    have : 1 ≤ 2 ^ (n.log2 + 1) := Nat.one_le_two_pow
    omega
theorem bent_int {B : Nat} {i j : Int} {t : PyData} (h : wt t = i.natAbs.log2 + 3) (hb : i.natAbs < B) (hj : j.natAbs ≤ i.natAbs + 7) : Bent B t (.int j) := by
  have h1 : j.natAbs.log2 ≤ i.natAbs.log2 + 4 := by
    obtain ⟨k, hk⟩ := Nat.le.dest hj
    have h2 := log_up i.natAbs 7 (by omega)
    by_cases z : j.natAbs = 0
    · rw [z]; simp
    · have h3 : i.natAbs + 7 < 2 ^ ((i.natAbs + 7).log2 + 1) := Nat.lt_log2_self
      have h4 : j.natAbs.log2 < (i.natAbs + 7).log2 + 1 := (Nat.log2_lt z).mpr (by omega)
      omega
  refine ⟨by simp [fit]; omega, by simp only [wt]; omega, by simp [PyData.depth]⟩
theorem digits_low {n : Nat} {c : Char} (h : c ∈ n.repr.toList) : c.toNat < 128 := by
  rw [Nat.repr_eq_ofList_toDigits] at h
  have h1 : c ∈ Nat.toDigits 10 n := by simpa using h
  have h2 := Nat.isDigit_of_mem_toDigits (by decide) (by decide) h1
  simp only [Char.isDigit, Bool.and_eq_true, decide_eq_true_eq] at h2
  have h3 : c.val ≤ '9'.val := h2.2
  have h4 : c.val.toNat ≤ '9'.val.toNat := h3
  have h5 : '9'.val.toNat = 57 := rfl
  show c.val.toNat < 128
  omega
theorem as_num (i : Int) : ascii (Str.ofString (toString i)) = true := by
  rw [as_list, Str.ofString_eq_toList, Int.toString_eq_repr, Int.repr_eq_if]
  show List.all (List.map Char.toNat _) _ = true
  rw [List.all_map, List.all_eq_true]
  intro c hc
  simp only [Function.comp, decide_eq_true_eq]
  split at hc
  · exact digits_low hc
  · rw [String.toList_append] at hc
    rcases List.mem_append.mp hc with h | h
    · have : c = '-' := by simpa using h
      rw [this]; decide
    · exact digits_low h
end K66
set_option maxRecDepth 100000
set_option maxHeartbeats 4000000
namespace K66
open PySem PySem.Spec L2 DL DR
theorem sz8 : (8 ≤ sizeLine) = True := sz_n _ (by decide)
theorem sz10 : (10 ≤ sizeLine) = True := sz_n _ (by decide)
theorem sz12 : (12 ≤ sizeLine) = True := sz_n _ (by decide)
theorem big (n : Nat) (h : n ≤ 100000) : (n ≤ sizeLine) = True := eq_true (Nat.le_trans h (by decide))
theorem bent_str {B : Nat} {wb : WF} {x : Str} {Q : PyData → Prop} (f : ascii x = true) (hz : x.length ≤ 3000) (h : ∀ r, Bent B (.str x) r → Q r) : b__law_bent cPick cD wb (slots0 N__law_bent [.dk, .d (.str x)]) (enD Q) := by
  have e1 : addD (.str x) (.str "e") = some (.str (x ++ "e")) := if_pos (Nat.le_trans (show x.length + 1 ≤ 3001 by omega) (by decide))
  have e2 : addD (.str x) (.str " ") = some (.str (x ++ " ")) := if_pos (Nat.le_trans (show x.length + 1 ≤ 3001 by omega) (by decide))
  have e3 : slD (.str x) (some 1) none = some (.str (cutS x (some 1) none)) := if_pos (Nat.le_trans hz (by decide))
  have e4 : upperD (.str x) [] = some (.str (Txt.upper x)) := if_pos (Nat.le_trans hz (by decide))
  have t1 : tyD (.str x) = "str" := rfl
  simp only [b__law_bent, wSeq, wIfS, wRet, wAsg, vD, vL, wNext, wDrop, wCall, wLen, pK, pD, pNil, w2, w1, wVar, wC, wTst, wAnd, wOr, wNot, wIf, wAndV, wOrV, wNotV, wNil, wCons, wTup, wLst, wAsL, wIxO, wNoO, wO, wSl, wChain, wIsi, wCl, wListOf, wMt, wBor, wBorT, wFrz, wApp, wExt, wPar2, wIL, wIT, wIS, wR1, wAsgG, gN, gNs, gC, gT, frz, unAll, wNeg, negD, wRaise, List.set, List.getElem?_cons_zero, List.getElem?_cons_succ, exists_eq_left', exists_eq_left, Option.some.injEq, Sl.d.injEq, Sl.l.injEq, PyData.int.injEq, PyData.bool.injEq, PyData.str.injEq, PyData.tuple.injEq, PyData.list.injEq, and_true, true_and, List.length_cons, List.length_nil, Nat.reduceAdd, Option.map_some, Option.bind_some, if_true, if_false, Bool.false_eq_true, Bool.not_true, Bool.not_false, slots0, N__law_bent, List.cons_append, List.nil_append, List.replicate, Nat.reduceSub, isTup, isStr, isInt, e1, e2, e3, e4, t1, cPick_iff, sz12, enD]
  refine ⟨by simp, by decide, fun r hr => h r ?_⟩
  obtain ⟨a1, a2⟩ := as_tail f
  obtain ⟨u1, u2⟩ := as_upper f
  simp only [List.mem_cons, List.not_mem_nil, or_false] at hr
  have w1 : (x ++ ("e" : Str)).length = x.length + 1 := by rw [strLen_append]; rfl
  have w2 : (x ++ (" " : Str)).length = x.length + 1 := by rw [strLen_append]; rfl
  rcases hr with rfl | rfl | rfl | rfl | rfl | rfl | rfl | rfl | rfl | rfl | rfl | rfl
  · exact bent_leaf (as_cat f (by decide +kernel)) (by simp only [wt, w1]; omega) (by simp [PyData.depth])
  · exact bent_leaf a1 (by simp only [wt]; omega) (by simp [PyData.depth])
  · exact bent_leaf u1 (by simp only [wt, u2]; omega) (by simp [PyData.depth])
  iterate 7 exact bent_leaf (show ascii _ = true by decide +kernel) (Nat.le_trans (show _ ≤ 60 by decide) (by omega)) (by simp [PyData.depth])
  · exact bent_leaf rfl (by simp only [wt]; omega) (by simp [PyData.depth])
  · exact bent_leaf (as_cat f (by decide +kernel)) (by simp only [wt, w2]; omega) (by simp [PyData.depth])
theorem bent_num {B : Nat} {wb : WF} {i : Int} {Q : PyData → Prop} (hB : B ≤ 1048576) (f : i.natAbs < B) (h : ∀ r, Bent B (.int i) r → Q r) : b__law_bent cPick cD wb (slots0 N__law_bent [.dk, .d (.int i)]) (enD Q) := by
  have hl : i.natAbs.log2 ≤ 19 := by
    by_cases z : i.natAbs = 0
    · rw [z]; decide
    · exact Nat.le_of_lt_succ ((Nat.log2_lt z).mpr (Nat.lt_of_lt_of_le f hB))
  have e1 : strD [.int i] = some (.str (Str.ofString (toString i))) := if_pos (by omega)
  have e2 : subD (.int i) (.int 1) = some (.int (i - 1)) := rfl
  simp only [b__law_bent, wSeq, wIfS, wRet, wAsg, vD, vL, wNext, wDrop, wCall, wLen, pK, pD, pNil, w2, w1, wVar, wC, wTst, wAnd, wOr, wNot, wIf, wAndV, wOrV, wNotV, wNil, wCons, wTup, wLst, wAsL, wIxO, wNoO, wO, wSl, wChain, wIsi, wCl, wListOf, wMt, wBor, wBorT, wFrz, wApp, wExt, wPar2, wIL, wIT, wIS, wR1, wAsgG, gN, gNs, gC, gT, frz, unAll, wNeg, negD, wRaise, List.set, List.getElem?_cons_zero, List.getElem?_cons_succ, exists_eq_left', exists_eq_left, Option.some.injEq, Sl.d.injEq, Sl.l.injEq, PyData.int.injEq, PyData.bool.injEq, PyData.str.injEq, PyData.tuple.injEq, PyData.list.injEq, and_true, true_and, List.length_cons, List.length_nil, Nat.reduceAdd, Option.map_some, Option.bind_some, if_true, if_false, Bool.false_eq_true, Bool.not_true, Bool.not_false, slots0, N__law_bent, List.cons_append, List.nil_append, List.replicate, Nat.reduceSub, isTup, isStr, isInt, e1, e2, eqi, addD, cPick_iff, sz8, enD]
  refine ⟨by simp, by decide, fun r hr => h r ?_⟩
  simp only [List.mem_cons, List.not_mem_nil, or_false] at hr
  have hw : wt (.int i) = i.natAbs.log2 + 3 := rfl
  rcases hr with rfl | rfl | rfl | rfl | rfl | rfl | rfl | rfl
  · exact bent_int hw f (by omega)
  · exact bent_int hw f (by omega)
  · exact bent_leaf rfl (by simp only [wt]; omega) (by simp [PyData.depth])
  · exact bent_leaf rfl (by simp only [wt]; omega) (by simp [PyData.depth])
  · exact bent_leaf (by simp [fit]) (by simp only [wt]; exact Nat.le_trans (show _ ≤ 5 by decide) (by omega)) (by simp [PyData.depth])
  · have := int_text i
    exact bent_leaf (as_num i) (by simp only [wt]; omega) (by simp [PyData.depth])
  · exact bent_leaf rfl (by simp only [wt]; omega) (by simp [PyData.depth])
  · exact bent_int hw f (by omega)
theorem bent_c {B : Nat} {t r : PyData} (h : (fit 8 r && decide (wt r ≤ 60) && decide (r.depth ≤ 2)) = true) : Bent B t r := by
  simp only [Bool.and_eq_true, decide_eq_true_eq] at h
  exact bent_leaf (fit_up (by omega) r h.1.1) (by omega) h.2
def oddsL : List PyData := [.none, .tuple [], .int 0, .list [], .str "", .tuple [.str "yes"], .tuple [.tuple [.str "yes"]], .bool true, .tuple [.str ""], .tuple [.str "e", .tuple []]]
theorem odds_ok : oddsL.all (fun r => fit 8 r && decide (wt r ≤ 60) && decide (r.depth ≤ 2)) = true := by decide +kernel
/-- what has no parts -/
theorem bent_odd {B : Nat} {wb : WF} {t : PyData} {Q : PyData → Prop} (h1 : isInt t = false) (h2 : isStr t = false) (h3 : isTup t = false ∨ t = .tuple []) (h : ∀ r, Bent B t r → Q r) : b__law_bent cPick cD wb (slots0 N__law_bent [.dk, .d t]) (enD Q) := by
  have hne : neD (.tuple []) (.tuple []) = some (.bool false) := rfl
  have fin : ∀ r ∈ oddsL, Q r := fun r hr => h r (bent_c (List.all_eq_true.mp odds_ok r hr))
  have n1 : oddsL ≠ [] := by simp [oddsL]
  have n2 : oddsL.length ≤ 65536 := by decide
  rcases h3 with h3 | rfl
  · simp only [b__law_bent, wSeq, wIfS, wRet, wAsg, vD, vL, wNext, wDrop, wCall, wLen, pK, pD, pNil, w2, w1, wVar, wC, wTst, wAnd, wOr, wNot, wIf, wAndV, wOrV, wNotV, wNil, wCons, wTup, wLst, wAsL, wIxO, wNoO, wO, wSl, wChain, wIsi, wCl, wListOf, wMt, wBor, wBorT, wFrz, wApp, wExt, wPar2, wIL, wIT, wIS, wR1, wAsgG, gN, gNs, gC, gT, frz, unAll, wNeg, negD, wRaise, List.set, List.getElem?_cons_zero, List.getElem?_cons_succ, exists_eq_left', exists_eq_left, Option.some.injEq, Sl.d.injEq, Sl.l.injEq, PyData.int.injEq, PyData.bool.injEq, PyData.str.injEq, PyData.tuple.injEq, PyData.list.injEq, and_true, true_and, List.length_cons, List.length_nil, Nat.reduceAdd, Option.map_some, Option.bind_some, if_true, if_false, Bool.false_eq_true, Bool.not_true, Bool.not_false, slots0, N__law_bent, List.cons_append, List.nil_append, List.replicate, Nat.reduceSub, h1, h2, h3, cPick_iff, sz0, sz1, sz2, sz10, enD]
    exact ⟨n1, n2, fin⟩
  · simp only [b__law_bent, wSeq, wIfS, wRet, wAsg, vD, vL, wNext, wDrop, wCall, wLen, pK, pD, pNil, w2, w1, wVar, wC, wTst, wAnd, wOr, wNot, wIf, wAndV, wOrV, wNotV, wNil, wCons, wTup, wLst, wAsL, wIxO, wNoO, wO, wSl, wChain, wIsi, wCl, wListOf, wMt, wBor, wBorT, wFrz, wApp, wExt, wPar2, wIL, wIT, wIS, wR1, wAsgG, gN, gNs, gC, gT, frz, unAll, wNeg, negD, wRaise, List.set, List.getElem?_cons_zero, List.getElem?_cons_succ, exists_eq_left', exists_eq_left, Option.some.injEq, Sl.d.injEq, Sl.l.injEq, PyData.int.injEq, PyData.bool.injEq, PyData.str.injEq, PyData.tuple.injEq, PyData.list.injEq, and_true, true_and, List.length_cons, List.length_nil, Nat.reduceAdd, Option.map_some, Option.bind_some, if_true, if_false, Bool.false_eq_true, Bool.not_true, Bool.not_false, slots0, N__law_bent, List.cons_append, List.nil_append, List.replicate, Nat.reduceSub, isTup, isStr, isInt, hne, cPick_iff, sz0, sz1, sz2, sz10, enD]
    exact ⟨n1, n2, fin⟩
theorem bent_tup {B : Nat} {wb : WF} {xs : List PyData} {Q : PyData → Prop} (hx : xs ≠ []) (f : fits B xs = true) (hz : wts xs ≤ 30000) (hb : ∀ (x : PyData) (R : PyData → Prop), x ∈ xs → (∀ r, Bent B x r → R r) → wb [.dk, .d x] R noEx) (h : ∀ r, Bent B (.tuple xs) r → Q r) : b__law_bent cPick cD wb (slots0 N__law_bent [.dk, .d (.tuple xs)]) (enD Q) := by
  have hl := wts_len xs
  have h0 : 0 < xs.length := List.length_pos_iff.mpr hx
  have hne : neD (.tuple xs) (.tuple []) = some (.bool true) := by
    rw [net (lay_of (B := B) (.tuple xs) f)]
    cases xs with
    | nil => exact absurd rfl hx
    | cons y ys => simp [PyData.eqv, PyData.eqvAll]
  have fin : ∀ r ∈ oddsL, Q r := fun r hr => h r (bent_c (List.all_eq_true.mp odds_ok r hr))
  have n1 : oddsL ≠ [] := by simp [oddsL]
  have n2 : oddsL.length ≤ 65536 := by decide
  have el : lenD [.tuple xs] = some (.int xs.length) := rfl
  have es : ∀ lo hi, slD (.tuple xs) lo hi = some (.tuple (cutL xs lo hi)) := fun _ _ => rfl
  have k40 : (100000 : Int) ≤ 2 ^ 40 := by decide
  simp only [b__law_bent, wSeq, wIfS, wRet, wAsg, vD, vL, wNext, wDrop, wCall, wLen, pK, pD, pNil, w2, w1, wVar, wC, wTst, wAnd, wOr, wNot, wIf, wAndV, wOrV, wNotV, wNil, wCons, wTup, wLst, wAsL, wIxO, wNoO, wO, wSl, wChain, wIsi, wCl, wListOf, wMt, wBor, wBorT, wFrz, wApp, wExt, wPar2, wIL, wIT, wIS, wR1, wAsgG, gN, gNs, gC, gT, frz, unAll, wNeg, negD, wRaise, List.set, List.getElem?_cons_zero, List.getElem?_cons_succ, exists_eq_left', exists_eq_left, Option.some.injEq, Sl.d.injEq, Sl.l.injEq, PyData.int.injEq, PyData.bool.injEq, PyData.str.injEq, PyData.tuple.injEq, PyData.list.injEq, and_true, true_and, List.length_cons, List.length_nil, Nat.reduceAdd, Option.map_some, Option.bind_some, if_true, if_false, Bool.false_eq_true, Bool.not_true, Bool.not_false, slots0, N__law_bent, List.cons_append, List.nil_append, List.replicate, Nat.reduceSub, isTup, isStr, isInt, hne, cPick_iff, cD_is, sz0, sz1, sz2, sz10, enD, gtD, ltD, i2, el, es, eqi]
  refine ⟨by decide, by decide, fun z z0 z1 => ?_⟩
  split
  · refine ⟨by omega, by omega, fun at' a0 a1 => ⟨by decide, by decide, fun way w0 w1 => ?_⟩⟩
    obtain ⟨i, rfl⟩ := Int.eq_ofNat_of_zero_le a0
    have hi : i < xs.length := by omega
    obtain ⟨x, hx2⟩ : ∃ x, xs[i]? = some x := ⟨xs[i], List.getElem?_eq_getElem hi⟩
    have hsp : xs = xs.take i ++ x :: xs.drop (i + 1) := by
      have e : xs[i] = x := by rw [List.getElem?_eq_getElem hi] at hx2; exact Option.some.inj hx2
      rw [← e, ← List.drop_eq_getElem_cons hi, List.take_append_drop]
    have hm : x ∈ xs := by rw [hsp]; simp
    have ei : ixD (.tuple xs) (.int i) = some x := by show atI xs (i : Int) = _; rw [atI_nat hi, hx2]
    have ea : addD (.int i) (.int 1) = some (.int ((i + 1 : Nat) : Int)) := rfl
    have c1 := cut_to (xs := xs) (i := i) (by omega)
    have c2 := cut_from (xs := xs) (i := i) (by omega)
    have c3 := cut_to (xs := xs) (i := i + 1) (by omega)
    have c4 := cut_from (xs := xs) (i := i + 1) (by omega)
    have hw : wts xs = wts (xs.take i) + (wt x + 2 + wts (xs.drop (i + 1))) := by
      have := congrArg wts hsp
      rw [wts_app] at this
      exact this
    have hf : fits B (xs.take i) = true ∧ fit B x = true ∧ fits B (xs.drop (i + 1)) = true := by
      have e := f
      rw [hsp, fits_app] at e
      simpa [fits] using e
    obtain ⟨f1, f2, f3⟩ := hf
    have hd : PyData.depthAll (xs.take i) ≤ PyData.depthAll xs ∧ x.depth ≤ PyData.depthAll xs ∧ PyData.depthAll (xs.drop (i + 1)) ≤ PyData.depthAll xs := by
      have e := congrArg PyData.depthAll hsp
      rw [depthAll_app] at e
      simp only [PyData.depthAll] at e
      omega
    obtain ⟨d1, d2, d3⟩ := hd
    have l1 : (xs.take i).length ≤ xs.length := by simp; omega
    have l2 : (xs.drop (i + 1)).length ≤ xs.length := by simp
    have ad : ∀ a b : List PyData, a.length + b.length ≤ 100000 → addD (.tuple a) (.tuple b) = some (.tuple (a ++ b)) := fun a b hab => if_pos (Nat.le_trans hab (by decide))
    have t1 : (xs.take (i + 1)) = xs.take i ++ [x] := by rw [List.take_add_one, hx2]; rfl
    have t2 : xs.drop i = x :: xs.drop (i + 1) := by
      have e : xs[i] = x := by rw [List.getElem?_eq_getElem hi] at hx2; exact Option.some.inj hx2
      rw [← e, List.drop_eq_getElem_cons hi]
    have mk : ∀ ys : List PyData, fits (B + 8) ys = true → wts ys ≤ wts xs + wts xs + 300 → PyData.depthAll ys ≤ PyData.depthAll xs + 2 → Bent B (.tuple xs) (.tuple ys) := fun ys a b c => ⟨a, by simp only [wt]; omega, by simp only [PyData.depth]; omega⟩
    simp only [ei, ea, exists_eq_left', Option.some.injEq, PyData.int.injEq, c1, c2, c3, c4]
    split
    · refine hb x _ hm fun r hr => ?_
      rw [ad _ _ (by simp; omega)]
      refine ⟨_, rfl, _, ad _ _ (by simp; omega), h _ (mk _ ?_ ?_ ?_)⟩
      · rw [fits_app, fits_app, fits_up (by omega) _ f1, fits_up (by omega) _ f3]; simp [fits, hr.fit]
      · rw [wts_app, wts_app]; have := hr.wt; simp only [wts]; omega
      · rw [depthAll_app, depthAll_app]; have := hr.dp; simp only [PyData.depthAll]; omega
    · split
      · refine ⟨_, ad _ _ (by omega), h _ (mk _ ?_ ?_ ?_)⟩
        · rw [fits_app, fits_up (by omega) _ f1, fits_up (by omega) _ f3]; rfl
        · rw [wts_app]; omega
        · rw [depthAll_app]; omega
      · split
        · rw [t1, t2]
          refine ⟨_, ad _ _ (by simp; omega), h _ (mk _ ?_ ?_ ?_)⟩
          · rw [fits_app, fits_app, fits_up (by omega) _ f1]; simp [fits, fit_up (show B ≤ B + 8 by omega) _ f2, fits_up (show B ≤ B + 8 by omega) _ f3]
          · rw [wts_app, wts_app]; simp only [wts]; omega
          · rw [depthAll_app, depthAll_app]; simp only [PyData.depthAll]; omega
        · exact ⟨xs, rfl, h _ ⟨fits_up (by omega) xs f, by simp only [wt]; omega, by simp only [PyData.depth]; omega⟩⟩
  · exact ⟨n1, n2, fin⟩
theorem r_bent {n : Nat} {wb : WF} (hw : ∀ x R, x.depth < n → cBent (n - 1) [.dk, .d x] R noEx → wb [.dk, .d x] R noEx) : ∀ ss Q E, ss.length = 2 → cBent n ss Q E → b__law_bent cPick cD wb (slots0 N__law_bent ss) (enD Q) := by
  rintro ss Q E - ⟨B, t, rfl, hB, f, p, hz, hd, h⟩
  cases t with
  | none => exact bent_odd rfl rfl (.inl rfl) h
  | bool b => simp [pl] at p
  | int i => exact bent_num hB (by simpa [fit] using f) h
  | str x => exact bent_str f (by simp only [wt] at hz; omega) h
  | list xs => exact bent_odd rfl rfl (.inl rfl) h
  | dict kvs => simp [fit] at f
  | tuple xs =>
    by_cases hx : xs = []
    · subst hx; exact bent_odd rfl rfl (.inr rfl) h
    · have f' : fits B xs = true := f
      have p' : pls xs = true := p
      simp only [wt] at hz
      simp only [PyData.depth] at hd
      refine bent_tup hx f' (by omega) (fun x R hm hr => ?_) h
      have h1 := depth_mem hm
      have h2 := wts_mem hm
      exact hw x R (by omega) ⟨B, x, rfl, hB, fits_mem f' hm, pls_mem p' hm, by omega, by omega, hr⟩
end K66
set_option maxRecDepth 100000
set_option maxHeartbeats 4000000
namespace K66
open PySem PySem.Spec L2 DL DR
theorem gate_pl {m g : Nat} {t : PyData} (h : gateOk m g t = true) : pl t = true := by
  cases gt_of h <;> simp [pl, pls]
theorem gates_pl {m : Nat} : ∀ (gs : List PyData) (n : Nat), gatesOk m gs n = true → pls gs = true
  | [], n, _ => rfl
  | t :: gs, n, h => by
    obtain ⟨h1, h2⟩ := gatesOk_cons h
    simp [pls, gate_pl h1, gates_pl gs (n + 1) h2]
/-- what is no circuit -/
structure NoC (t : PyData) : Prop where
  fit : fit 200 t = true
  wt : wt t ≤ 12000
  dp : t.depth ≤ 5
  no : circOk t = false
theorem NoC.sm {t : PyData} (h : NoC t) : sm t = true := fit_sm t h.fit (by have := h.wt; omega)
def cNoC : WF := fun ss Q _ => ∃ (l : List Bool) (gs : List PyData), ss = [.dk, .d (circ l gs)] ∧ CircOk l gs ∧ gs.length ≤ 60 ∧ ∀ t, NoC t → Q t
theorem m_cNoC : MonoF cNoC := fun ss Q Q' E E' k _ ⟨l, gs, e, h1, h2, h⟩ => ⟨l, gs, e, h1, h2, fun t ht => k _ (h t ht)⟩
theorem wf_is {f : Fn} {ds : List PyData} {Q : PyData → Prop} {E : Addr → PyData → Prop} {r : PyData} (h : f ds = some r) (q : Q r) : wf f (ds.map Sl.d) Q E := ⟨ds, r, rfl, h, q⟩
theorem r_no_circuit : ∀ ss Q E, ss.length = 2 → cNoC ss Q E → b__law_no_circuit (cBent 3) (wf f__law_is_circuit) (slots0 N__law_no_circuit ss) (enD Q) := by
  rintro ss Q E - ⟨l, gs, rfl, hc, hg, h⟩
  have hl := hc.l12
  obtain ⟨f1, f2, f3⟩ := circ_fit (show l.length ≤ 64 by omega) hc.g64 hc.ok
  have hp : pl (circ l gs) = true := by simp [circ, pl, pls, gates_pl gs 0 hc.ok]
  have s6 : smallI 6 := by unfold smallI; decide
  refine ⟨6, rfl, s6, ?_⟩
  refine forD_rng (P := fun k ρ => ∃ s2 s3 : Sl, ρ = [.dk, .d (circ l gs), s2, s3]) ⟨.un, .un, rfl⟩ ?_ ?_
  · rintro k ρ hk ⟨s2, s3, rfl⟩
    refine ⟨_, rfl, fun E' e1 e2 e3 e4 => ?_⟩
    simp only [wSeq, wIfS, wRet, wAsg, vD, vL, wNext, wDrop, wCall, wLen, pK, pD, pNil, w2, w1, wVar, wC, wTst, wAnd, wOr, wNot, wIf, wAndV, wOrV, wNotV, wNil, wCons, wTup, wLst, wAsL, wIxO, wNoO, wO, wSl, wChain, wIsi, wCl, wListOf, wMt, wBor, wBorT, wFrz, wApp, wExt, wPar2, wIL, wIT, wIS, wR1, wAsgG, gN, gNs, gC, gT, frz, unAll, wNeg, negD, wRaise, List.set, List.getElem?_cons_zero, List.getElem?_cons_succ, exists_eq_left', exists_eq_left, Option.some.injEq, Sl.d.injEq, Sl.l.injEq, PyData.int.injEq, PyData.bool.injEq, PyData.str.injEq, PyData.tuple.injEq, PyData.list.injEq, and_true, true_and, List.length_cons, List.length_nil, Nat.reduceAdd, Option.map_some, Option.bind_some, if_true, if_false, Bool.false_eq_true, Bool.not_true, Bool.not_false, cBent_is]
    refine ⟨100, by decide, f1, hp, by omega, f3, fun r hr => ?_⟩
    have hr1 : fit 200 r = true := fit_up (by decide) r hr.fit
    have hr2 := hr.wt
    have hr3 := hr.dp
    have hs : sm r = true := fit_sm r hr1 (by omega)
    refine wf_is (ds := [r]) (x__law_is_circuit r hs) ?_
    refine ⟨_, rfl, ?_⟩
    cases hk2 : circOk r
    · rw [if_pos (show (!false) = true from rfl), e1]
      exact h r ⟨hr1, by omega, by omega, hk2⟩
    · rw [if_neg (by simp)]
      exact e2 _ ⟨_, _, rfl⟩
  · rintro ρ ⟨s2, s3, rfl⟩
    have hi : ixD (circ l gs) (.int 0) = some (.str (es l)) := ix0
    simp only [wSeq, wIfS, wRet, wAsg, vD, vL, wNext, wDrop, wCall, wLen, pK, pD, pNil, w2, w1, wVar, wC, wTst, wAnd, wOr, wNot, wIf, wAndV, wOrV, wNotV, wNil, wCons, wTup, wLst, wAsL, wIxO, wNoO, wO, wSl, wChain, wIsi, wCl, wListOf, wMt, wBor, wBorT, wFrz, wApp, wExt, wPar2, wIL, wIT, wIS, wR1, wAsgG, gN, gNs, gC, gT, frz, unAll, wNeg, negD, wRaise, List.set, List.getElem?_cons_zero, List.getElem?_cons_succ, exists_eq_left', exists_eq_left, Option.some.injEq, Sl.d.injEq, Sl.l.injEq, PyData.int.injEq, PyData.bool.injEq, PyData.str.injEq, PyData.tuple.injEq, PyData.list.injEq, and_true, true_and, List.length_cons, List.length_nil, Nat.reduceAdd, Option.map_some, Option.bind_some, if_true, if_false, Bool.false_eq_true, Bool.not_true, Bool.not_false, hi, sz0, sz2]
    refine h _ ⟨by simp [fit, fits, as_es], by simp [wt, wts, es_len]; omega, by simp [PyData.depth, PyData.depthAll], by simp [circOk]⟩
def nfW : WE := (wAsL (wLst (wCons (wC .none) (wCons (wC (.int 0)) (wCons (w2 addD (w2 mulQD (wC (.str "F")) (wVar 1)) (wC (.str "F"))) (wCons (wC (.str "x")) (wCons (w2 mulQD (wAsL (wLst (wCons (wC (.str "f")) wNil))) (wVar 1)) (wCons (w2 mulQD (wTup (wCons (wC (.str "f")) wNil)) (w2 addD (wVar 1) (wC (.int 1)))) (wCons (w2 mulQD (wC (.str "t")) (w2 addD (wVar 1) (wC (.int 1)))) (wCons (w2 addD (w2 mulQD (wC (.str "f")) (wVar 1)) (wC (.str "e"))) (wCons (wC (.bool true)) (wCons (wTup wNil) (wCons (w2 mulQD (wC (.str "ft")) (w2 addD (wVar 1) (wC (.int 1)))) wNil)))))))))))))
def nfE : Env' → Option PyData := (eAsL (eLst (eCons (eC .none) (eCons (eC (.int 0)) (eCons (e2 addD (e2 mulQD (eC (.str "F")) (eVar 1)) (eC (.str "F"))) (eCons (eC (.str "x")) (eCons (e2 mulQD (eAsL (eLst (eCons (eC (.str "f")) eNil))) (eVar 1)) (eCons (e2 mulQD (eTup (eCons (eC (.str "f")) eNil)) (e2 addD (eVar 1) (eC (.int 1)))) (eCons (e2 mulQD (eC (.str "t")) (e2 addD (eVar 1) (eC (.int 1)))) (eCons (e2 addD (e2 mulQD (eC (.str "f")) (eVar 1)) (eC (.str "e"))) (eCons (eC (.bool true)) (eCons (eTup eNil) (eCons (e2 mulQD (eC (.str "ft")) (e2 addD (eVar 1) (eC (.int 1)))) eNil)))))))))))))
theorem nf_snd : Snd nfW nfE := by
  unfold nfW nfE
  repeat' first | exact sNil | exact sC | exact sVar | apply sAsL | apply sLst | apply sCons | apply s2 | apply sTup
def nfT (w__law_pick : WF) : WS := (wSeq (wIfS (wAnd (wTst (w2 gtD (wVar 1) (wC (.int 0)))) (wNot (wTst (wVar 2)))) (wAsg 3 (vD (w2 addD (wVar 3) (wAsL (wLst (wCons (w2 mulQD (wC (.str "f")) (w2 subD (wVar 1) (wC (.int 1)))) (wCons (wC (.str "")) wNil))))))) wNext) (wRet (wCall w__law_pick (wLen 2 (pK 0 (pD (wVar 3) pNil))) noEx)))
theorem seq_asg {i : Nat} {wa : WE} {w : WS} {ρ : Env'} {E : En} : wSeq (wAsg i (vD wa)) w ρ E = wa ρ fun d => w (ρ.set i (.d d)) E := rfl
theorem nf_d (wp : WF) : b__law_no_filling wp = wSeq (wAsg 3 (vD nfW)) (nfT wp) := rfl
theorem nf_b (wp : WF) (Q : PyData → Prop) (m : Int) : b__law_no_filling wp (slots0 N__law_no_filling [.dk, .d (.int m), .d (.bool true)]) (enD Q) = nfW [.dk, .d (.int m), .d (.bool true), .un] (fun d => nfT wp [.dk, .d (.int m), .d (.bool true), .d d] (enD Q)) := by
  rw [nf_d, seq_asg]
  rfl
def nfOk (m : Nat) (r : PyData) : Bool := fit 200 r && decide (wt r ≤ 12000) && decide (r.depth ≤ 5) && noFill m r
def nfAll (m : Nat) : Bool := match nfE [.dk, .d (.int m), .d (.bool true), .un] with
  | some (.list xs) => xs.all (nfOk m) && !xs.isEmpty && decide (xs.length ≤ 65536)
  | _ => false
theorem nf_all : (List.range 13).all nfAll = true := by decide +kernel
structure NoF (m : Nat) (t : PyData) : Prop where
  fit : fit 200 t = true
  wt : wt t ≤ 12000
  dp : t.depth ≤ 5
  no : noFill m t = true
theorem NoF.sm {m : Nat} {t : PyData} (h : NoF m t) : sm t = true := fit_sm t h.fit (by have := h.wt; omega)
def cNoF : WF := fun ss Q _ => ∃ m : Nat, ss = [.dk, .d (.int m), .d (.bool true)] ∧ m ≤ 12 ∧ ∀ t, NoF m t → Q t
theorem m_cNoF : MonoF cNoF := fun ss Q Q' E E' k _ ⟨m, e, h1, h⟩ => ⟨m, e, h1, fun t ht => k _ (h t ht)⟩
theorem r_no_filling : ∀ ss Q E, ss.length = 3 → cNoF ss Q E → b__law_no_filling cPick (slots0 N__law_no_filling ss) (enD Q) := by
  rintro ss Q E - ⟨m, rfl, hm, h⟩
  have h1 := List.all_eq_true.mp nf_all m (List.mem_range.mpr (by omega))
  unfold nfAll at h1
  generalize h2 : nfE [.dk, .d (.int m), .d (.bool true), .un] = o at h1
  match o, h1, h2 with
  | some (.list xs), h1, h2 =>
    simp only [Bool.and_eq_true, Bool.not_eq_true', decide_eq_true_eq, List.all_eq_true] at h1
    obtain ⟨⟨h3, h4⟩, h5⟩ := h1
    rw [nf_b]
    refine nf_snd _ _ h2 _ ?_
    have ne : xs ≠ [] := by intro e; subst e; simp at h4
    have fin : ∀ x ∈ xs, Q x := fun x hx => by
      have := h3 x hx
      unfold nfOk at this
      simp only [Bool.and_eq_true, decide_eq_true_eq] at this
      exact h x ⟨this.1.1.1, this.1.1.2, this.1.2, this.2⟩
    simp only [nfT, wSeq, wIfS, wRet, wAsg, vD, vL, wNext, wDrop, wCall, wLen, pK, pD, pNil, w2, w1, wVar, wC, wTst, wAnd, wOr, wNot, wIf, wAndV, wOrV, wNotV, wNil, wCons, wTup, wLst, wAsL, wIxO, wNoO, wO, wSl, wChain, wIsi, wCl, wListOf, wMt, wBor, wBorT, wFrz, wApp, wExt, wPar2, wIL, wIT, wIS, wR1, wAsgG, gN, gNs, gC, gT, frz, unAll, wNeg, negD, wRaise, List.set, List.getElem?_cons_zero, List.getElem?_cons_succ, exists_eq_left', exists_eq_left, Option.some.injEq, Sl.d.injEq, Sl.l.injEq, PyData.int.injEq, PyData.bool.injEq, PyData.str.injEq, PyData.tuple.injEq, PyData.list.injEq, and_true, true_and, List.length_cons, List.length_nil, Nat.reduceAdd, Option.map_some, Option.bind_some, if_true, if_false, Bool.false_eq_true, Bool.not_true, Bool.not_false, enD, gtD, i2, cPick_iff]
    split
    · exact ⟨ne, h5, fin⟩
    · exact ⟨ne, h5, fin⟩
end K66
set_option maxRecDepth 100000
set_option maxHeartbeats 8000000
namespace K66
open PySem PySem.Spec L2 DL DR
def top (i : Nat) : Stmt := PySem.Challenge.pw_provenplay_k66_circuits_after_beginnings.main.body.getD i (.Pass ⟨0, 0, 0, 0⟩)
abbrev s_is_integer : Stmt := top 1
abbrev s_is_from : Stmt := top 2
abbrev s_is_tuple : Stmt := top 3
abbrev s_is_word_of : Stmt := top 4
abbrev s_is_gate : Stmt := top 8
abbrev s_is_circuit_value : Stmt := top 9
abbrev s_gate_value : Stmt := top 10
abbrev s_values_for : Stmt := top 11
abbrev s_value_from : Stmt := top 12
abbrev s_is_filling_value : Stmt := top 19
abbrev s_all_fillings : Stmt := top 20
abbrev s_need_circuit : Stmt := top 22
abbrev s_circuit_after : Stmt := top 23
abbrev s_circuit_value : Stmt := top 24
abbrev s_many_true : Stmt := top 25
abbrev s__law_deck : Stmt := top 27
abbrev s__law_draw : Stmt := top 28
abbrev s__law_pick : Stmt := top 29
abbrev s__law_same : Stmt := top 30
abbrev s__law_near_number : Stmt := top 32
abbrev s__law_drawn_circuit : Stmt := top 31
abbrev s__law_values : Stmt := top 33
abbrev s__law_fillings : Stmt := top 34
abbrev s__law_row : Stmt := top 35
abbrev s__law_value : Stmt := top 36
abbrev s__law_is_whole : Stmt := top 37
abbrev s__law_is_gate : Stmt := top 38
abbrev s__law_is_circuit : Stmt := top 39
abbrev s__law_bent : Stmt := top 40
abbrev s__law_no_circuit : Stmt := top 41
abbrev s__law_no_filling : Stmt := top 42
abbrev s__law_heard : Stmt := top 43
abbrev s_law : Stmt := top 44
structure Adr where
  f_is_integer : Addr
  fd_is_integer : FuncData
  f_is_from : Addr
  fd_is_from : FuncData
  f_is_tuple : Addr
  fd_is_tuple : FuncData
  f_is_word_of : Addr
  fd_is_word_of : FuncData
  f_is_gate : Addr
  fd_is_gate : FuncData
  f_is_circuit_value : Addr
  fd_is_circuit_value : FuncData
  f_gate_value : Addr
  fd_gate_value : FuncData
  f_values_for : Addr
  fd_values_for : FuncData
  f_value_from : Addr
  fd_value_from : FuncData
  f_is_filling_value : Addr
  fd_is_filling_value : FuncData
  f_all_fillings : Addr
  fd_all_fillings : FuncData
  f_need_circuit : Addr
  fd_need_circuit : FuncData
  f_circuit_after : Addr
  fd_circuit_after : FuncData
  f_circuit_value : Addr
  fd_circuit_value : FuncData
  f_many_true : Addr
  fd_many_true : FuncData
  f__law_deck : Addr
  fd__law_deck : FuncData
  f__law_draw : Addr
  fd__law_draw : FuncData
  f__law_pick : Addr
  fd__law_pick : FuncData
  f__law_same : Addr
  fd__law_same : FuncData
  f__law_near_number : Addr
  fd__law_near_number : FuncData
  f__law_drawn_circuit : Addr
  fd__law_drawn_circuit : FuncData
  f__law_values : Addr
  fd__law_values : FuncData
  f__law_fillings : Addr
  fd__law_fillings : FuncData
  f__law_row : Addr
  fd__law_row : FuncData
  f__law_value : Addr
  fd__law_value : FuncData
  f__law_is_whole : Addr
  fd__law_is_whole : FuncData
  f__law_is_gate : Addr
  fd__law_is_gate : FuncData
  f__law_is_circuit : Addr
  fd__law_is_circuit : FuncData
  f__law_bent : Addr
  fd__law_bent : FuncData
  f__law_no_circuit : Addr
  fd__law_no_circuit : FuncData
  f__law_no_filling : Addr
  fd__law_no_filling : FuncData
  f__law_heard : Addr
  fd__law_heard : FuncData
  f_law : Addr
  fd_law : FuncData
  C_PlayError : Addr
  I_PlayError : Addr
  C_BadFilling : Addr
  I_BadFilling : Addr
  C_BadCircuit : Addr
  I_BadCircuit : Addr
structure Dfn (K : PySem.W.Frag) (mg : Str → Option Value) (x : Str) (st : Stmt) (f : Addr) (fd : FuncData) (ps : List Str) : Prop where
  fu : L2.Fun K x x st f fd
  mgf : mg x = some (.ref f)
  bi : Binds K fd ps []
structure Tx (K : PySem.W.Frag) (mg : Str → Option Value) (a : Adr) : Prop where
  D_is_integer : Dfn K mg "is_integer" s_is_integer a.f_is_integer a.fd_is_integer ["thing"]
  D_is_from : Dfn K mg "is_from" s_is_from a.f_is_from a.fd_is_from ["thing", "least"]
  D_is_tuple : Dfn K mg "is_tuple" s_is_tuple a.f_is_tuple a.fd_is_tuple ["thing", "many"]
  D_is_word_of : Dfn K mg "is_word_of" s_is_word_of a.f_is_word_of a.fd_is_word_of ["thing", "signs"]
  D_is_gate : Dfn K mg "is_gate" s_is_gate a.f_is_gate a.fd_is_gate ["thing", "many", "number"]
  D_is_circuit_value : Dfn K mg "is_circuit_value" s_is_circuit_value a.f_is_circuit_value a.fd_is_circuit_value ["thing"]
  D_gate_value : Dfn K mg "gate_value" s_gate_value a.f_gate_value a.fd_gate_value ["gate", "known", "filling"]
  D_values_for : Dfn K mg "values_for" s_values_for a.f_values_for a.fd_values_for ["gates", "filling"]
  D_value_from : Dfn K mg "value_from" s_value_from a.f_value_from a.fd_value_from ["circuit", "filling"]
  D_is_filling_value : Dfn K mg "is_filling_value" s_is_filling_value a.f_is_filling_value a.fd_is_filling_value ["thing"]
  D_all_fillings : Dfn K mg "all_fillings" s_all_fillings a.f_all_fillings a.fd_all_fillings ["many"]
  D_need_circuit : Dfn K mg "need_circuit" s_need_circuit a.f_need_circuit a.fd_need_circuit ["circuit"]
  D_circuit_after : Dfn K mg "circuit_after" s_circuit_after a.f_circuit_after a.fd_circuit_after ["circuit", "filling"]
  D_circuit_value : Dfn K mg "circuit_value" s_circuit_value a.f_circuit_value a.fd_circuit_value ["circuit"]
  D_many_true : Dfn K mg "many_true" s_many_true a.f_many_true a.fd_many_true ["circuit"]
  D__law_deck : Dfn K mg "_law_deck" s__law_deck a.f__law_deck a.fd__law_deck ["script", "mixed"]
  D__law_draw : Dfn K mg "_law_draw" s__law_draw a.f__law_draw a.fd__law_draw ["deck", "many"]
  D__law_pick : Dfn K mg "_law_pick" s__law_pick a.f__law_pick a.fd__law_pick ["deck", "some"]
  D__law_same : Dfn K mg "_law_same" s__law_same a.f__law_same a.fd__law_same ["told", "due"]
  D__law_near_number : Dfn K mg "_law_near_number" s__law_near_number a.f__law_near_number a.fd__law_near_number ["deck", "g"]
  D__law_drawn_circuit : Dfn K mg "_law_drawn_circuit" s__law_drawn_circuit a.f__law_drawn_circuit a.fd__law_drawn_circuit ["deck", "m", "many"]
  D__law_values : Dfn K mg "_law_values" s__law_values a.f__law_values a.fd__law_values ["gates", "filling"]
  D__law_fillings : Dfn K mg "_law_fillings" s__law_fillings a.f__law_fillings a.fd__law_fillings ["m"]
  D__law_row : Dfn K mg "_law_row" s__law_row a.f__law_row a.fd__law_row ["circuit"]
  D__law_value : Dfn K mg "_law_value" s__law_value a.f__law_value a.fd__law_value ["prefix", "row"]
  D__law_is_whole : Dfn K mg "_law_is_whole" s__law_is_whole a.f__law_is_whole a.fd__law_is_whole ["thing"]
  D__law_is_gate : Dfn K mg "_law_is_gate" s__law_is_gate a.f__law_is_gate a.fd__law_is_gate ["m", "g", "thing"]
  D__law_is_circuit : Dfn K mg "_law_is_circuit" s__law_is_circuit a.f__law_is_circuit a.fd__law_is_circuit ["thing"]
  D__law_bent : Dfn K mg "_law_bent" s__law_bent a.f__law_bent a.fd__law_bent ["deck", "thing"]
  D__law_no_circuit : Dfn K mg "_law_no_circuit" s__law_no_circuit a.f__law_no_circuit a.fd__law_no_circuit ["deck", "circuit"]
  D__law_no_filling : Dfn K mg "_law_no_filling" s__law_no_filling a.f__law_no_filling a.fd__law_no_filling ["deck", "m", "is_beginning"]
  D__law_heard : Dfn K mg "_law_heard" s__law_heard a.f__law_heard a.fd__law_heard ["call"]
  D_law : Dfn K mg "law" s_law a.f_law a.fd_law ["script"]
  b_all : mg "all" = none
  b_any : mg "any" = none
  b_bool : mg "bool" = none
  b_enumerate : mg "enumerate" = none
  b_int : mg "int" = none
  b_isinstance : mg "isinstance" = none
  b_len : mg "len" = none
  b_list : mg "list" = none
  b_max : mg "max" = none
  b_range : mg "range" = none
  b_repr : mg "repr" = none
  b_str : mg "str" = none
  b_tuple : mg "tuple" = none
  b_zip : mg "zip" = none
  g_LETTERS_OF_FILLINGS_circuitwork : ∃ u, mg "LETTERS_OF_FILLINGS_circuitwork" = some u ∧ RelV (.str "ft") u
  g_JOINING : ∃ (p : Addr) (vs : List V), mg "JOINING" = some (.ref p) ∧ (∀ G, SqT K G p vs) ∧ ∀ G, DqAll K G vs [.str "and", .str "or"]
  g_LETTERS_OF_FILLINGS_formulawork : ∃ u, mg "LETTERS_OF_FILLINGS_formulawork" = some u ∧ RelV (.str "ft") u
  X_BadFilling : ErrTxt K mg "BadFilling" "BadFilling.__init__" a.C_BadFilling a.I_BadFilling
  X_BadCircuit : ErrTxt K mg "BadCircuit" "BadCircuit.__init__" a.C_BadCircuit a.I_BadCircuit
  kw_circuit_after_filling_circuit : KwO K a.fd_circuit_after ["circuit", "filling"] ["filling", "circuit"] g_1_0
  kw_circuit_value_circuit : KwO K a.fd_circuit_value ["circuit"] ["circuit"] g_0
  kw_many_true_circuit : KwO K a.fd_many_true ["circuit"] ["circuit"] g_0
theorem S_is_integer : FnScope N_is_integer ["thing"] (defScope s_is_integer) := ⟨rfl, rfl, rfl, by decide +kernel, rfl, by decide +kernel, by decide +kernel⟩
theorem d_is_integer {P : Program} {wd : World} {K : PySem.W.Frag} {mg : Str → Option Value} {base : Heap} {a : Adr} (T : Tx K mg a) {k : Nat} {cdv : Value} {A : Around} {outer : List Env} {s : Shared} {H : Hp} {E : XK} {F : Fx} (hr : Room k (A.deeper (PyProof.Rows.envOfC "is_integer" (defScope s_is_integer) s.heap.objs.size a.f_is_integer cdv))) :
    SSs (cxOf CX0 P wd K mg base N_is_integer "is_integer" (defScope s_is_integer) a.f_is_integer cdv A outer s H E).nox F (defBody s_is_integer) (b_is_integer) := by
  have hN := S_is_integer.nd
  exact (by exact (sss_one (by exact (ss_ret (by exact (se_and (by exact (se_isi TyF.int (by exact (se_var (pv 0))) (by rfl) (by exact T.b_isinstance) (by rfl) (by exact T.b_int) (by decide +kernel))) (se_one (by exact (se_not (by exact (se_isi TyF.bl (by exact (se_var (pv 0))) (by rfl) (by exact T.b_isinstance) (by rfl) (by exact T.b_bool) (by decide +kernel))))))))))))
theorem S_is_from : FnScope N_is_from ["thing", "least"] (defScope s_is_from) := ⟨rfl, rfl, rfl, by decide +kernel, rfl, by decide +kernel, by decide +kernel⟩
theorem d_is_from {P : Program} {wd : World} {K : PySem.W.Frag} {mg : Str → Option Value} {base : Heap} {a : Adr} (T : Tx K mg a) {k : Nat} {k_is_integer : Nat} {w_is_integer : WF} (m_is_integer : MonoF w_is_integer) (o_is_integer : FnOk P wd K mg base CX0 k_is_integer a.f_is_integer a.fd_is_integer ["thing"] (spD K 1 w_is_integer)) (l_is_integer : k_is_integer ≤ k) {cdv : Value} {A : Around} {outer : List Env} {s : Shared} {H : Hp} {E : XK} {F : Fx} (hr : Room k (A.deeper (PyProof.Rows.envOfC "is_from" (defScope s_is_from) s.heap.objs.size a.f_is_from cdv))) :
    SSs (cxOf CX0 P wd K mg base N_is_from "is_from" (defScope s_is_from) a.f_is_from cdv A outer s H E).nox F (defBody s_is_from) (b_is_from w_is_integer) := by
  have hN := S_is_from.nd
  exact (by exact (sss_one (by exact (ss_ret (by exact (se_and (by exact (se_callN m_is_integer o_is_integer (hr.mono l_is_integer) (by rfl) T.D_is_integer.mgf T.D_is_integer.fu.kp T.D_is_integer.bi pass0 (by exact (sp_d (by exact (se_var (pv 0))) sp_nil)))) (se_one (by exact (se_cmp op_ge op2_ge (by exact (se_var (pv 0))) (by exact (se_var (pv 1))) (nomark _))))))))))
theorem S_is_tuple : FnScope N_is_tuple ["thing", "many"] (defScope s_is_tuple) := ⟨rfl, rfl, rfl, by decide +kernel, rfl, by decide +kernel, by decide +kernel⟩
theorem d_is_tuple {P : Program} {wd : World} {K : PySem.W.Frag} {mg : Str → Option Value} {base : Heap} {a : Adr} (T : Tx K mg a) {k : Nat} {cdv : Value} {A : Around} {outer : List Env} {s : Shared} {H : Hp} {E : XK} {F : Fx} (hr : Room k (A.deeper (PyProof.Rows.envOfC "is_tuple" (defScope s_is_tuple) s.heap.objs.size a.f_is_tuple cdv))) :
    SSs (cxOf CX0 P wd K mg base N_is_tuple "is_tuple" (defScope s_is_tuple) a.f_is_tuple cdv A outer s H E).nox F (defBody s_is_tuple) (b_is_tuple) := by
  have hN := S_is_tuple.nd
  exact (by exact (sss_one (by exact (ss_ret (by exact (se_and (by exact (se_isi TyF.tup (by exact (se_var (pv 0))) (by rfl) (by exact T.b_isinstance) (by rfl) (by exact T.b_tuple) (by decide +kernel))) (se_one (by exact (se_cmp (op_eqQ hr.units) op2_eq (by exact (se_callB call_lenQ cl_len (by rfl) (by exact T.b_len) (by decide +kernel) (by exact (sa_cons (by exact (se_var (pv 0))) sa_nil)))) (by exact (se_var (pv 1))) (nomark _))))))))))
theorem S_is_word_of : FnScope N_is_word_of ["thing", "signs"] (defScope s_is_word_of) := ⟨rfl, rfl, rfl, by decide +kernel, rfl, by decide +kernel, by decide +kernel⟩
theorem d_is_word_of {P : Program} {wd : World} {K : PySem.W.Frag} {mg : Str → Option Value} {base : Heap} {a : Adr} (T : Tx K mg a) {k : Nat} {cdv : Value} {A : Around} {outer : List Env} {s : Shared} {H : Hp} {E : XK} {F : Fx} (hr : Room k (A.deeper (PyProof.Rows.envOfC "is_word_of" (defScope s_is_word_of) s.heap.objs.size a.f_is_word_of cdv))) :
    SSs (cxOf CX0 P wd K mg base N_is_word_of "is_word_of" (defScope s_is_word_of) a.f_is_word_of cdv A outer s H E).nox F (defBody s_is_word_of) (b_is_word_of) := by
  have hN := S_is_word_of.nd
  exact (by exact (sss_one (by exact (ss_ret (by exact (se_and (by exact (se_isi TyF.str (by exact (se_var (pv 0))) (by rfl) (by exact T.b_isinstance) (by rfl) (by exact T.b_str) (by decide +kernel))) (se_one (by exact (se_callB (cr_all rfl) cl_foldBl (by rfl) (by exact T.b_all) (by decide +kernel) (by exact (sa_cons (by exact (SEL.se (by exact (sl_lc (own := [("sign", 2)]) rfl hN (by exact (si_str (by exact (se_var (pv 0))))) (blkOk_by (N := N_is_word_of) (sc := defScope s_is_word_of) (own := [("sign", 2)]) (by decide +kernel)) (fun _ _ _ _ _ => (by exact (sg_name (i := 2) hN rfl (by first | exact Or.inl rfl | exact Or.inr rfl) (Or.inr rfl)))) (fun _ _ _ _ _ => sts_nil) (fun _ _ _ _ _ => (by exact (se_cmp op_inS0 (op2_inS (neg := false)) (by exact (se_var (pv 2))) (by exact (se_var (pv 1))) rfl))) (by decide))))) sa_nil)))))))))))
theorem S_is_gate : FnScope N_is_gate ["thing", "many", "number"] (defScope s_is_gate) := ⟨rfl, rfl, rfl, by decide +kernel, rfl, by decide +kernel, by decide +kernel⟩
theorem d_is_gate {P : Program} {wd : World} {K : PySem.W.Frag} {mg : Str → Option Value} {base : Heap} {a : Adr} (T : Tx K mg a) {k : Nat} {k_is_from : Nat} {w_is_from : WF} (m_is_from : MonoF w_is_from) (o_is_from : FnOk P wd K mg base CX0 k_is_from a.f_is_from a.fd_is_from ["thing", "least"] (spD K 2 w_is_from)) (l_is_from : k_is_from ≤ k) {cdv : Value} {A : Around} {outer : List Env} {s : Shared} {H : Hp} {E : XK} {F : Fx} (hr : Room k (A.deeper (PyProof.Rows.envOfC "is_gate" (defScope s_is_gate) s.heap.objs.size a.f_is_gate cdv))) :
    SSs (cxOf CX0 P wd K mg base N_is_gate "is_gate" (defScope s_is_gate) a.f_is_gate cdv A outer s H E).nox F (defBody s_is_gate) (b_is_gate w_is_from) := by
  have hN := S_is_gate.nd
  exact (by exact (sss_cons (by exact (ss_if (by exact (SW.st (sw_or (by exact (st_not (by exact (st_val (by exact (se_isi TyF.tup (by exact (se_var (pv 0))) (by rfl) (by exact T.b_isinstance) (by rfl) (by exact T.b_tuple) (by decide +kernel))))))) (sw_or (by exact (st_cmp (op_eqQ hr.units) op2_eq (by exact (se_var (pv 0))) (by exact (se_tup (by exact sa_nil))) (nomark _))) (sw_or1 (by exact (st_not (by exact (st_val (by exact (se_isi TyF.str (by exact (se_ix (by exact (se_var (pv 0))) (by exact se_int))) (by rfl) (by exact T.b_isinstance) (by rfl) (by exact T.b_str) (by decide +kernel)))))))))))) (by exact (sss_one (by exact (ss_ret (by exact se_bl))))) (by exact sss_nil))) (sss_cons (by exact (ss_if (by exact (st_cmp (op_eqQ hr.units) op2_eq (by exact (se_ix (by exact (se_var (pv 0))) (by exact se_int))) (by exact se_str) (nomark _))) (by exact (sss_one (by exact (ss_ret (by exact (se_cmp (op_eqQ hr.units) op2_eq (by exact (se_callB call_lenQ cl_len (by rfl) (by exact T.b_len) (by decide +kernel) (by exact (sa_cons (by exact (se_var (pv 0))) sa_nil)))) (by exact se_int) (nomark _))))))) (by exact sss_nil))) (sss_cons (by exact (ss_if (by exact (st_cmp (op_eqQ hr.units) op2_eq (by exact (se_ix (by exact (se_var (pv 0))) (by exact se_int))) (by exact se_str) (nomark _))) (by exact (sss_one (by exact (ss_ret (by exact (se_and (by exact (se_cmp (op_eqQ hr.units) op2_eq (by exact (se_callB call_lenQ cl_len (by rfl) (by exact T.b_len) (by decide +kernel) (by exact (sa_cons (by exact (se_var (pv 0))) sa_nil)))) (by exact se_int) (nomark _))) (se_and (by exact (se_callN m_is_from o_is_from (hr.mono l_is_from) (by rfl) T.D_is_from.mgf T.D_is_from.fu.kp T.D_is_from.bi pass0 (by exact (sp_d (by exact (se_ix (by exact (se_var (pv 0))) (by exact se_int))) (sp_d (by exact se_int) sp_nil))))) (se_one (by exact (se_cmp op_lt op2_lt (by exact (se_ix (by exact (se_var (pv 0))) (by exact se_int))) (by exact (se_var (pv 1))) (nomark _))))))))))) (by exact sss_nil))) (sss_cons (by exact (ss_if (by exact (st_cmp (op_eqQ hr.units) op2_eq (by exact (se_ix (by exact (se_var (pv 0))) (by exact se_int))) (by exact se_str) (nomark _))) (by exact (sss_one (by exact (ss_ret (by exact (se_and (by exact (se_cmp (op_eqQ hr.units) op2_eq (by exact (se_callB call_lenQ cl_len (by rfl) (by exact T.b_len) (by decide +kernel) (by exact (sa_cons (by exact (se_var (pv 0))) sa_nil)))) (by exact se_int) (nomark _))) (se_and (by exact (se_callN m_is_from o_is_from (hr.mono l_is_from) (by rfl) T.D_is_from.mgf T.D_is_from.fu.kp T.D_is_from.bi pass0 (by exact (sp_d (by exact (se_ix (by exact (se_var (pv 0))) (by exact se_int))) (sp_d (by exact se_int) sp_nil))))) (se_one (by exact (se_cmp op_lt op2_lt (by exact (se_ix (by exact (se_var (pv 0))) (by exact se_int))) (by exact (se_var (pv 2))) (nomark _))))))))))) (by exact sss_nil))) (sss_cons (by exact (ss_if (by exact (SW.st (sw_or (by exact (st_cmp op_notIn_seq (op2_inTx (neg := true)) (by exact (se_ix (by exact (se_var (pv 0))) (by exact se_int))) (by exact (se_gtup (by rfl) T.g_JOINING.choose_spec.choose_spec.1 T.g_JOINING.choose_spec.choose_spec.2.1 T.g_JOINING.choose_spec.choose_spec.2.2)) rfl)) (sw_or1 (by exact (st_cmp (op_neQ hr.units) op2_ne (by exact (se_callB call_lenQ cl_len (by rfl) (by exact T.b_len) (by decide +kernel) (by exact (sa_cons (by exact (se_var (pv 0))) sa_nil)))) (by exact se_int) (nomark _))))))) (by exact (sss_one (by exact (ss_ret (by exact se_bl))))) (by exact sss_nil))) (sss_one (by exact (ss_ret (by exact (se_callB (cr_all rfl) cl_foldBl (by rfl) (by exact T.b_all) (by decide +kernel) (by exact (sa_cons (by exact (SEL.se (by exact (sl_lc (own := [("part", 3)]) rfl hN (by exact (si_tup (by exact (se_sl (by exact (se_var (pv 0))) (by exact (so_some (by exact se_int))) (by exact so_none))))) (blkOk_by (N := N_is_gate) (sc := defScope s_is_gate) (own := [("part", 3)]) (by decide +kernel)) (fun _ _ _ _ _ => (by exact (sg_name (i := 3) hN rfl (by first | exact Or.inl rfl | exact Or.inr rfl) (Or.inr rfl)))) (fun _ _ _ _ _ => sts_nil) (fun _ _ _ _ _ => (by exact (se_and (by exact (se_callN m_is_from o_is_from (hr.mono l_is_from) (by rfl) T.D_is_from.mgf T.D_is_from.fu.kp T.D_is_from.bi pass0 (by exact (sp_d (by exact (se_var (pv 3))) (sp_d (by exact se_int) sp_nil))))) (se_one (by exact (se_cmp op_lt op2_lt (by exact (se_var (pv 3))) (by exact (se_var (pv 2))) (nomark _))))))) (by decide))))) sa_nil)))))))))))))
theorem S_is_circuit_value : FnScope N_is_circuit_value ["thing"] (defScope s_is_circuit_value) := ⟨rfl, rfl, rfl, by decide +kernel, rfl, by decide +kernel, by decide +kernel⟩
theorem d_is_circuit_value {P : Program} {wd : World} {K : PySem.W.Frag} {mg : Str → Option Value} {base : Heap} {a : Adr} (T : Tx K mg a) {k : Nat} {k_is_gate : Nat} {k_is_word_of : Nat} {k_is_tuple : Nat} {w_is_tuple : WF} (m_is_tuple : MonoF w_is_tuple) (o_is_tuple : FnOk P wd K mg base CX0 k_is_tuple a.f_is_tuple a.fd_is_tuple ["thing", "many"] (spD K 2 w_is_tuple)) (l_is_tuple : k_is_tuple ≤ k) {w_is_word_of : WF} (m_is_word_of : MonoF w_is_word_of) (o_is_word_of : FnOk P wd K mg base CX0 k_is_word_of a.f_is_word_of a.fd_is_word_of ["thing", "signs"] (spD K 2 w_is_word_of)) (l_is_word_of : k_is_word_of ≤ k) {w_is_gate : WF} (m_is_gate : MonoF w_is_gate) (o_is_gate : FnOk P wd K mg base CX0 k_is_gate a.f_is_gate a.fd_is_gate ["thing", "many", "number"] (spD K 3 w_is_gate)) (l_is_gate : k_is_gate ≤ k) {cdv : Value} {A : Around} {outer : List Env} {s : Shared} {H : Hp} {E : XK} {F : Fx} (hr : Room k (A.deeper (PyProof.Rows.envOfC "is_circuit_value" (defScope s_is_circuit_value) s.heap.objs.size a.f_is_circuit_value cdv))) :
    SSs (cxOf CX0 P wd K mg base N_is_circuit_value "is_circuit_value" (defScope s_is_circuit_value) a.f_is_circuit_value cdv A outer s H E).nox F (defBody s_is_circuit_value) (b_is_circuit_value w_is_tuple w_is_word_of w_is_gate) := by
  have hN := S_is_circuit_value.nd
  exact (by exact (sss_cons (by exact (ss_if (by exact (SW.st (sw_or (by exact (st_not (by exact (st_val (by exact (se_callN m_is_tuple o_is_tuple (hr.mono l_is_tuple) (by rfl) T.D_is_tuple.mgf T.D_is_tuple.fu.kp T.D_is_tuple.bi pass0 (by exact (sp_d (by exact (se_var (pv 0))) (sp_d (by exact se_int) sp_nil))))))))) (sw_or (by exact (st_not (by exact (st_val (by exact (se_callN m_is_word_of o_is_word_of (hr.mono l_is_word_of) (by rfl) T.D_is_word_of.mgf T.D_is_word_of.fu.kp T.D_is_word_of.bi pass0 (by exact (sp_d (by exact (se_ix (by exact (se_var (pv 0))) (by exact se_int))) (sp_d (by exact se_str) sp_nil))))))))) (sw_or (by exact (st_not (by exact (st_val (by exact (se_isi TyF.tup (by exact (se_ix (by exact (se_var (pv 0))) (by exact se_int))) (by rfl) (by exact T.b_isinstance) (by rfl) (by exact T.b_tuple) (by decide +kernel))))))) (sw_or1 (by exact (st_cmp (op_eqQ hr.units) op2_eq (by exact (se_ix (by exact (se_var (pv 0))) (by exact se_int))) (by exact (se_tup (by exact sa_nil))) (nomark _))))))))) (by exact (sss_one (by exact (ss_ret (by exact se_bl))))) (by exact sss_nil))) (sss_one (by exact (ss_ret (by exact (se_callB (cr_all rfl) cl_foldBl (by rfl) (by exact T.b_all) (by decide +kernel) (by exact (sa_cons (by exact (SEL.se (by exact (sl_lc (own := [("number", 1), ("gate", 2)]) rfl hN (by exact (si_enumT (by rfl) (by exact T.b_enumerate) (by exact (se_ix (by exact (se_var (pv 0))) (by exact se_int))))) (blkOk_by (N := N_is_circuit_value) (sc := defScope s_is_circuit_value) (own := [("number", 1), ("gate", 2)]) (by decide +kernel)) (fun _ _ _ _ _ => (by exact (sg_tup rfl (sgs_cons (by exact (sg_name (i := 1) hN rfl (by first | exact Or.inl rfl | exact Or.inr rfl) (Or.inr rfl))) (sgs_cons (by exact (sg_name (i := 2) hN rfl (by first | exact Or.inl rfl | exact Or.inr rfl) (Or.inr rfl))) sgs_nil))))) (fun _ _ _ _ _ => sts_nil) (fun _ _ _ _ _ => (by exact (se_callN m_is_gate o_is_gate (hr.mono l_is_gate) (by rfl) T.D_is_gate.mgf T.D_is_gate.fu.kp T.D_is_gate.bi pass0 (by exact (sp_d (by exact (se_var (pv 2))) (sp_d (by exact (se_callB call_lenQ cl_len (by rfl) (by exact T.b_len) (by decide +kernel) (by exact (sa_cons (by exact (se_ix (by exact (se_var (pv 0))) (by exact se_int))) sa_nil)))) (sp_d (by exact (se_var (pv 1))) sp_nil))))))) (by decide))))) sa_nil)))))))))
theorem S_gate_value : FnScope N_gate_value ["gate", "known", "filling"] (defScope s_gate_value) := ⟨rfl, rfl, rfl, by decide +kernel, rfl, by decide +kernel, by decide +kernel⟩
theorem d_gate_value {P : Program} {wd : World} {K : PySem.W.Frag} {mg : Str → Option Value} {base : Heap} {a : Adr} (T : Tx K mg a) {k : Nat} {cdv : Value} {A : Around} {outer : List Env} {s : Shared} {H : Hp} {E : XK} {F : Fx} (hr : Room k (A.deeper (PyProof.Rows.envOfC "gate_value" (defScope s_gate_value) s.heap.objs.size a.f_gate_value cdv))) :
    SSs (cxOf CX0 P wd K mg base N_gate_value "gate_value" (defScope s_gate_value) a.f_gate_value cdv A outer s H E).nox F (defBody s_gate_value) (b_gate_value) := by
  have hN := S_gate_value.nd
  exact (by exact (sss_cons (by exact (ss_set (i := 3) hN rfl (by first | exact Or.inl rfl | exact Or.inr rfl) (by exact (SE.v (by exact (se_ix (by exact (se_var (pv 0))) (by exact se_int))))))) (sss_cons (by exact (ss_if (by exact (st_cmp (op_eqQ hr.units) op2_eq (by exact (se_var (pv 3))) (by exact se_str) (nomark _))) (by exact (sss_one (by exact (ss_ret (by exact se_bl))))) (by exact sss_nil))) (sss_cons (by exact (ss_if (by exact (st_cmp (op_eqQ hr.units) op2_eq (by exact (se_var (pv 3))) (by exact se_str) (nomark _))) (by exact (sss_one (by exact (ss_ret (by exact (se_cmp (op_eqQ hr.units) op2_eq (by exact (se_ix (by exact (se_var (pv 2))) (by exact (se_ix (by exact (se_var (pv 0))) (by exact se_int))))) (by exact se_str) (nomark _))))))) (by exact sss_nil))) (sss_cons (by exact (ss_if (by exact (st_cmp (op_eqQ hr.units) op2_eq (by exact (se_var (pv 3))) (by exact se_str) (nomark _))) (by exact (sss_one (by exact (ss_ret (by exact (se_not (by exact (se_ix (by exact (se_var (pv 1))) (by exact (se_ix (by exact (se_var (pv 0))) (by exact se_int))))))))))) (by exact sss_nil))) (sss_cons (by exact (ss_if (by exact (st_cmp (op_eqQ hr.units) op2_eq (by exact (se_var (pv 3))) (by exact se_str) (nomark _))) (by exact (sss_one (by exact (ss_ret (by exact (se_and (by exact (se_ix (by exact (se_var (pv 1))) (by exact (se_ix (by exact (se_var (pv 0))) (by exact se_int))))) (se_one (by exact (se_ix (by exact (se_var (pv 1))) (by exact (se_ix (by exact (se_var (pv 0))) (by exact se_int)))))))))))) (by exact sss_nil))) (sss_one (by exact (ss_ret (by exact (se_or (by exact (se_ix (by exact (se_var (pv 1))) (by exact (se_ix (by exact (se_var (pv 0))) (by exact se_int))))) (se_one (by exact (se_ix (by exact (se_var (pv 1))) (by exact (se_ix (by exact (se_var (pv 0))) (by exact se_int)))))))))))))))))
theorem S_values_for : FnScope N_values_for ["gates", "filling"] (defScope s_values_for) := ⟨rfl, rfl, rfl, by decide +kernel, rfl, by decide +kernel, by decide +kernel⟩
theorem d_values_for {P : Program} {wd : World} {K : PySem.W.Frag} {mg : Str → Option Value} {base : Heap} {a : Adr} (T : Tx K mg a) {k : Nat} {k_gate_value : Nat} {w_gate_value : WF} (m_gate_value : MonoF w_gate_value) (o_gate_value : FnOk P wd K mg base CX0 k_gate_value a.f_gate_value a.fd_gate_value ["gate", "known", "filling"] (spD K 3 w_gate_value)) (l_gate_value : k_gate_value ≤ k) {cdv : Value} {A : Around} {outer : List Env} {s : Shared} {H : Hp} {E : XK} {F : Fx} (hr : Room k (A.deeper (PyProof.Rows.envOfC "values_for" (defScope s_values_for) s.heap.objs.size a.f_values_for cdv))) :
    SSs (cxOf CX0 P wd K mg base N_values_for "values_for" (defScope s_values_for) a.f_values_for cdv A outer s H E).nox F (defBody s_values_for) (b_values_for w_gate_value) := by
  have hN := S_values_for.nd
  exact (by exact (sss_cons (by exact (ss_set (i := 2) hN rfl (by first | exact Or.inl rfl | exact Or.inr rfl) (by exact (SEL.v (by exact (sl_lst (by exact sa_nil))))))) (sss_cons (by exact (ss_for PassesOwn.never rfl (by exact (si_tup (by exact (se_var (pv 0))))) (by exact (sg_name (i := 3) hN rfl (by first | exact Or.inl rfl | exact Or.inr rfl))) (by exact (sss_one (by exact (ss_app (pv 2) (se_bor 2 (by exact (se_callN m_gate_value o_gate_value (hr.mono l_gate_value) (by rfl) T.D_gate_value.mgf T.D_gate_value.fu.kp T.D_gate_value.bi pass0 (by exact (sp_d (by exact (se_var (pv 3))) (sp_d (by exact (se_var (pv 2))) (sp_d (by exact (se_var (pv 1))) sp_nil))))))))))))) (sss_one (by exact (ss_frz 2 (ss_ret (by exact (se_var (pv 2))))))))))
theorem S_value_from : FnScope N_value_from ["circuit", "filling"] (defScope s_value_from) := ⟨rfl, rfl, rfl, by decide +kernel, rfl, by decide +kernel, by decide +kernel⟩
theorem d_value_from {P : Program} {wd : World} {K : PySem.W.Frag} {mg : Str → Option Value} {base : Heap} {a : Adr} (T : Tx K mg a) {k : Nat} {k_values_for : Nat} {k_value_from : Nat} {w_value_from : WF} (m_value_from : MonoF w_value_from) (o_value_from : FnOk P wd K mg base CX0 k_value_from a.f_value_from a.fd_value_from ["circuit", "filling"] (spD K 2 w_value_from)) (l_value_from : k_value_from ≤ k) {w_values_for : WF} (m_values_for : MonoF w_values_for) (o_values_for : FnOk P wd K mg base CX0 k_values_for a.f_values_for a.fd_values_for ["gates", "filling"] (spD K 2 w_values_for)) (l_values_for : k_values_for ≤ k) {cdv : Value} {A : Around} {outer : List Env} {s : Shared} {H : Hp} {E : XK} {F : Fx} (hr : Room k (A.deeper (PyProof.Rows.envOfC "value_from" (defScope s_value_from) s.heap.objs.size a.f_value_from cdv))) :
    SSs (cxOf CX0 P wd K mg base N_value_from "value_from" (defScope s_value_from) a.f_value_from cdv A outer s H E).nox F (defBody s_value_from) (b_value_from w_value_from w_values_for) := by
  have hN := S_value_from.nd
  exact (by exact (sss_cons (by exact (ss_asg (by exact (sg_tup rfl (sgs_cons (by exact (sg_name (i := 2) hN rfl (by first | exact Or.inl rfl | exact Or.inr rfl))) (sgs_cons (by exact (sg_name (i := 3) hN rfl (by first | exact Or.inl rfl | exact Or.inr rfl))) sgs_nil)))) (by exact (se_var (pv 0))))) (sss_cons (by exact (ss_if (by exact (st_cmp (op_eqQ hr.units) op2_eq (by exact (se_callB call_lenQ cl_len (by rfl) (by exact T.b_len) (by decide +kernel) (by exact (sa_cons (by exact (se_var (pv 1))) sa_nil)))) (by exact (se_callB call_lenQ cl_len (by rfl) (by exact T.b_len) (by decide +kernel) (by exact (sa_cons (by exact (se_var (pv 2))) sa_nil)))) (nomark _))) (by exact (sss_one (by exact (ss_ret (by exact (se_ix (by exact (se_callN m_values_for o_values_for (hr.mono l_values_for) (by rfl) T.D_values_for.mgf T.D_values_for.fu.kp T.D_values_for.bi pass0 (by exact (sp_d (by exact (se_var (pv 3))) (sp_d (by exact (se_var (pv 1))) sp_nil))))) (by exact (se_neg (by exact se_int))))))))) (by exact sss_nil))) (sss_cons (by exact (ss_setLc (own := [("letter", 5)]) (i := 4) rfl hN rfl rfl (sw_true rfl rfl rfl rfl) (by exact (si_str (by exact (se_gstr (by rfl) T.g_LETTERS_OF_FILLINGS_circuitwork.choose_spec.1 T.g_LETTERS_OF_FILLINGS_circuitwork.choose_spec.2)))) (blkOk_by (N := N_value_from) (sc := defScope s_value_from) (own := [("letter", 5)]) (by decide +kernel)) (fun _ _ _ _ _ => (by exact (sg_name (i := 5) hN rfl (by first | exact Or.inl rfl | exact Or.inr rfl) (Or.inr rfl)))) (fun _ _ _ _ _ => sts_nil) (fun _ _ _ _ _ => (by exact (se_callN m_value_from o_value_from (hr.mono l_value_from) (by rfl) T.D_value_from.mgf T.D_value_from.fu.kp T.D_value_from.bi pass0 (by exact (sp_d (by exact (se_var (pv 0))) (sp_d (by exact (se_op op_addD op2_add (by exact (se_var (pv 1))) (by exact (se_var (pv 5))))) sp_nil)))))) (by decide) (Or.inr rfl) )) (sss_one (by exact (ss_ret (by exact (se_if (by exact (st_cmp (op_eqQ hr.units) op2_eq (by exact (se_ix (by exact (se_var (pv 2))) (by exact (se_callB call_lenQ cl_len (by rfl) (by exact T.b_len) (by decide +kernel) (by exact (sa_cons (by exact (se_var (pv 1))) sa_nil)))))) (by exact se_str) (nomark _))) (by exact (se_callB (cr_any rfl) cl_foldBl (by rfl) (by exact T.b_any) (by decide +kernel) (by exact (sa_cons (by exact (se_var (pv 4))) sa_nil)))) (by exact (se_callB (cr_all rfl) cl_foldBl (by rfl) (by exact T.b_all) (by decide +kernel) (by exact (sa_cons (by exact (se_var (pv 4))) sa_nil)))))))))))))
theorem S_is_filling_value : FnScope N_is_filling_value ["thing"] (defScope s_is_filling_value) := ⟨rfl, rfl, rfl, by decide +kernel, rfl, by decide +kernel, by decide +kernel⟩
theorem d_is_filling_value {P : Program} {wd : World} {K : PySem.W.Frag} {mg : Str → Option Value} {base : Heap} {a : Adr} (T : Tx K mg a) {k : Nat} {k_is_word_of : Nat} {w_is_word_of : WF} (m_is_word_of : MonoF w_is_word_of) (o_is_word_of : FnOk P wd K mg base CX0 k_is_word_of a.f_is_word_of a.fd_is_word_of ["thing", "signs"] (spD K 2 w_is_word_of)) (l_is_word_of : k_is_word_of ≤ k) {cdv : Value} {A : Around} {outer : List Env} {s : Shared} {H : Hp} {E : XK} {F : Fx} (hr : Room k (A.deeper (PyProof.Rows.envOfC "is_filling_value" (defScope s_is_filling_value) s.heap.objs.size a.f_is_filling_value cdv))) :
    SSs (cxOf CX0 P wd K mg base N_is_filling_value "is_filling_value" (defScope s_is_filling_value) a.f_is_filling_value cdv A outer s H E).nox F (defBody s_is_filling_value) (b_is_filling_value w_is_word_of) := by
  have hN := S_is_filling_value.nd
  exact (by exact (sss_one (by exact (ss_ret (by exact (se_callN m_is_word_of o_is_word_of (hr.mono l_is_word_of) (by rfl) T.D_is_word_of.mgf T.D_is_word_of.fu.kp T.D_is_word_of.bi pass0 (by exact (sp_d (by exact (se_var (pv 0))) (sp_d (by exact (se_gstr (by rfl) T.g_LETTERS_OF_FILLINGS_formulawork.choose_spec.1 T.g_LETTERS_OF_FILLINGS_formulawork.choose_spec.2)) sp_nil)))))))))
theorem S_all_fillings : FnScope N_all_fillings ["many"] (defScope s_all_fillings) := ⟨rfl, rfl, rfl, by decide +kernel, rfl, by decide +kernel, by decide +kernel⟩
theorem d_all_fillings {P : Program} {wd : World} {K : PySem.W.Frag} {mg : Str → Option Value} {base : Heap} {a : Adr} (T : Tx K mg a) {k : Nat} {cdv : Value} {A : Around} {outer : List Env} {s : Shared} {H : Hp} {E : XK} {F : Fx} (hr : Room k (A.deeper (PyProof.Rows.envOfC "all_fillings" (defScope s_all_fillings) s.heap.objs.size a.f_all_fillings cdv))) :
    SSs (cxOf CX0 P wd K mg base N_all_fillings "all_fillings" (defScope s_all_fillings) a.f_all_fillings cdv A outer s H E).nox F (defBody s_all_fillings) (b_all_fillings) := by
  have hN := S_all_fillings.nd
  exact (by exact (sss_cons (by exact (ss_set (i := 1) hN rfl (by first | exact Or.inl rfl | exact Or.inr rfl) (by exact (SE.v (by exact (SEL.se (by exact (sl_lst (by exact (sa_cons (by exact se_str) sa_nil)))))))))) (sss_cons (by exact (ss_for PassesOwn.never rfl (by exact (si_range1 (by rfl) (by exact T.b_range) (by exact (se_var (pv 0))))) (by exact (sg_name (i := 2) hN rfl (by first | exact Or.inl rfl | exact Or.inr rfl))) (by exact (sss_one (by exact (ss_setLc2 (own := [("filling", 3), ("letter", 4)]) (i := 1) rfl hN rfl rfl (sw_true rfl rfl rfl rfl) (by exact (si_list (by exact (se_var (pv 1))))) (blkOk_by (N := N_all_fillings) (sc := defScope s_all_fillings) (own := [("filling", 3), ("letter", 4)]) (by decide +kernel)) (by decide) (fun _ _ _ _ _ => (by exact (sg_name (i := 3) hN rfl (by first | exact Or.inl rfl | exact Or.inr rfl) (Or.inr rfl)))) (fun _ _ _ _ _ => sts_nil) (fun _ _ _ _ _ => (by exact (si_str (by exact (se_gstr (by rfl) T.g_LETTERS_OF_FILLINGS_formulawork.choose_spec.1 T.g_LETTERS_OF_FILLINGS_formulawork.choose_spec.2))))) (fun _ _ _ _ _ => (by exact (sg_name (i := 4) hN rfl (by first | exact Or.inl rfl | exact Or.inr rfl) (Or.inr rfl)))) (fun _ _ _ _ _ => sts_nil) (fun _ _ _ _ _ => (by exact (se_op op_addD op2_add (by exact (se_var (pv 3))) (by exact (se_var (pv 4)))))) (by decide) (by decide) (Or.inr rfl) )))))) (sss_one (by exact (ss_ret (by exact (se_var (pv 1)))))))))
theorem S_need_circuit : FnScope N_need_circuit ["circuit"] (defScope s_need_circuit) := ⟨rfl, rfl, rfl, by decide +kernel, rfl, by decide +kernel, by decide +kernel⟩
theorem d_need_circuit {P : Program} {wd : World} {K : PySem.W.Frag} {mg : Str → Option Value} {base : Heap} {a : Adr} (T : Tx K mg a) {k : Nat} {k_is_circuit_value : Nat} {w_is_circuit_value : WF} (m_is_circuit_value : MonoF w_is_circuit_value) (o_is_circuit_value : FnOk P wd K mg base CX0 k_is_circuit_value a.f_is_circuit_value a.fd_is_circuit_value ["thing"] (spD K 1 w_is_circuit_value)) (l_is_circuit_value : k_is_circuit_value ≤ k) {cdv : Value} {A : Around} {outer : List Env} {s : Shared} {H : Hp} {E : XK} {F : Fx} (hr : Room k (A.deeper (PyProof.Rows.envOfC "need_circuit" (defScope s_need_circuit) s.heap.objs.size a.f_need_circuit cdv))) :
    SSs (cxOf (L2.CX P wd) P wd K mg base N_need_circuit "need_circuit" (defScope s_need_circuit) a.f_need_circuit cdv A outer s H E) F (defBody s_need_circuit) (b_need_circuit w_is_circuit_value a.C_BadCircuit (exD K F E)) := by
  have hN := S_need_circuit.nd
  exact (by exact (sss_one (by exact (ss_if (by exact (st_not (by exact (st_val (by exact (se_callN m_is_circuit_value o_is_circuit_value (hr.mono l_is_circuit_value) (by rfl) T.D_is_circuit_value.mgf T.D_is_circuit_value.fu.kp T.D_is_circuit_value.bi pass0 (by exact (sp_d (by exact (se_var (pv 0))) sp_nil)))))))) (by exact (sss_one (by exact (ss_raise rfl T.X_BadCircuit hr (takes_of rfl rfl rfl rfl) (by exact (se_var (pv 0))) (by rfl))))) (by exact sss_nil)))))
theorem S_circuit_after : FnScope N_circuit_after ["circuit", "filling"] (defScope s_circuit_after) := ⟨rfl, rfl, rfl, by decide +kernel, rfl, by decide +kernel, by decide +kernel⟩
theorem d_circuit_after {P : Program} {wd : World} {K : PySem.W.Frag} {mg : Str → Option Value} {base : Heap} {a : Adr} (T : Tx K mg a) {k : Nat} {k_is_filling_value : Nat} {k_value_from : Nat} {k_need_circuit : Nat} {w_need_circuit : WF} (m_need_circuit : MonoF w_need_circuit) (o_need_circuit : FnOk P wd K mg base (L2.CX P wd) k_need_circuit a.f_need_circuit a.fd_need_circuit ["circuit"] (spD K 1 w_need_circuit)) (l_need_circuit : k_need_circuit ≤ k) {w_value_from : WF} (m_value_from : MonoF w_value_from) (o_value_from : FnOk P wd K mg base CX0 k_value_from a.f_value_from a.fd_value_from ["circuit", "filling"] (spD K 2 w_value_from)) (l_value_from : k_value_from ≤ k) {w_is_filling_value : WF} (m_is_filling_value : MonoF w_is_filling_value) (o_is_filling_value : FnOk P wd K mg base CX0 k_is_filling_value a.f_is_filling_value a.fd_is_filling_value ["thing"] (spD K 1 w_is_filling_value)) (l_is_filling_value : k_is_filling_value ≤ k) {cdv : Value} {A : Around} {outer : List Env} {s : Shared} {H : Hp} {E : XK} {F : Fx} (hr : Room k (A.deeper (PyProof.Rows.envOfC "circuit_after" (defScope s_circuit_after) s.heap.objs.size a.f_circuit_after cdv))) :
    SSs (cxOf (L2.CX P wd) P wd K mg base N_circuit_after "circuit_after" (defScope s_circuit_after) a.f_circuit_after cdv A outer s H E) F (defBody s_circuit_after) (b_circuit_after w_need_circuit w_value_from w_is_filling_value a.C_BadFilling (exD K F E)) := by
  have hN := S_circuit_after.nd
  exact (by exact (sss_cons (by exact (ss_expr (by exact (se_call m_need_circuit o_need_circuit (hr.mono l_need_circuit) (by rfl) T.D_need_circuit.mgf T.D_need_circuit.fu.kp T.D_need_circuit.bi (passes_call (takes_of rfl rfl rfl rfl) fun _ _ _ _ h => h) (by exact (sp_d (by exact (se_var (pv 0))) sp_nil)))))) (sss_cons (by exact (ss_if (by exact (SW.st (sw_or (by exact (st_not (by exact (st_val (by exact (se_callN m_is_filling_value o_is_filling_value (hr.mono l_is_filling_value) (by rfl) T.D_is_filling_value.mgf T.D_is_filling_value.fu.kp T.D_is_filling_value.bi pass0 (by exact (sp_d (by exact (se_var (pv 1))) sp_nil)))))))) (sw_or1 (by exact (st_cmp op_gt op2_gt (by exact (se_callB call_lenQ cl_len (by rfl) (by exact T.b_len) (by decide +kernel) (by exact (sa_cons (by exact (se_var (pv 1))) sa_nil)))) (by exact (se_callB call_lenQ cl_len (by rfl) (by exact T.b_len) (by decide +kernel) (by exact (sa_cons (by exact (se_ix (by exact (se_var (pv 0))) (by exact se_int))) sa_nil)))) (nomark _))))))) (by exact (sss_one (by exact (ss_raise rfl T.X_BadFilling hr (takes_of rfl rfl rfl rfl) (by exact (se_var (pv 1))) (by rfl))))) (by exact sss_nil))) (sss_one (by exact (ss_ret (by exact (se_callN m_value_from o_value_from (hr.mono l_value_from) (by rfl) T.D_value_from.mgf T.D_value_from.fu.kp T.D_value_from.bi pass0 (by exact (sp_d (by exact (se_var (pv 0))) (sp_d (by exact (se_var (pv 1))) sp_nil)))))))))))
theorem S_circuit_value : FnScope N_circuit_value ["circuit"] (defScope s_circuit_value) := ⟨rfl, rfl, rfl, by decide +kernel, rfl, by decide +kernel, by decide +kernel⟩
theorem d_circuit_value {P : Program} {wd : World} {K : PySem.W.Frag} {mg : Str → Option Value} {base : Heap} {a : Adr} (T : Tx K mg a) {k : Nat} {k_value_from : Nat} {k_need_circuit : Nat} {w_need_circuit : WF} (m_need_circuit : MonoF w_need_circuit) (o_need_circuit : FnOk P wd K mg base (L2.CX P wd) k_need_circuit a.f_need_circuit a.fd_need_circuit ["circuit"] (spD K 1 w_need_circuit)) (l_need_circuit : k_need_circuit ≤ k) {w_value_from : WF} (m_value_from : MonoF w_value_from) (o_value_from : FnOk P wd K mg base CX0 k_value_from a.f_value_from a.fd_value_from ["circuit", "filling"] (spD K 2 w_value_from)) (l_value_from : k_value_from ≤ k) {cdv : Value} {A : Around} {outer : List Env} {s : Shared} {H : Hp} {E : XK} {F : Fx} (hr : Room k (A.deeper (PyProof.Rows.envOfC "circuit_value" (defScope s_circuit_value) s.heap.objs.size a.f_circuit_value cdv))) :
    SSs (cxOf (L2.CX P wd) P wd K mg base N_circuit_value "circuit_value" (defScope s_circuit_value) a.f_circuit_value cdv A outer s H E) F (defBody s_circuit_value) (b_circuit_value w_need_circuit w_value_from (exD K F E)) := by
  have hN := S_circuit_value.nd
  exact (by exact (sss_cons (by exact (ss_expr (by exact (se_call m_need_circuit o_need_circuit (hr.mono l_need_circuit) (by rfl) T.D_need_circuit.mgf T.D_need_circuit.fu.kp T.D_need_circuit.bi (passes_call (takes_of rfl rfl rfl rfl) fun _ _ _ _ h => h) (by exact (sp_d (by exact (se_var (pv 0))) sp_nil)))))) (sss_one (by exact (ss_ret (by exact (se_callN m_value_from o_value_from (hr.mono l_value_from) (by rfl) T.D_value_from.mgf T.D_value_from.fu.kp T.D_value_from.bi pass0 (by exact (sp_d (by exact (se_var (pv 0))) (sp_d (by exact se_str) sp_nil))))))))))
theorem S_many_true : FnScope N_many_true ["circuit"] (defScope s_many_true) := ⟨rfl, rfl, rfl, by decide +kernel, rfl, by decide +kernel, by decide +kernel⟩
theorem d_many_true {P : Program} {wd : World} {K : PySem.W.Frag} {mg : Str → Option Value} {base : Heap} {a : Adr} (T : Tx K mg a) {k : Nat} {k_values_for : Nat} {k_all_fillings : Nat} {k_need_circuit : Nat} {w_need_circuit : WF} (m_need_circuit : MonoF w_need_circuit) (o_need_circuit : FnOk P wd K mg base (L2.CX P wd) k_need_circuit a.f_need_circuit a.fd_need_circuit ["circuit"] (spD K 1 w_need_circuit)) (l_need_circuit : k_need_circuit ≤ k) {w_all_fillings : WF} (m_all_fillings : MonoF w_all_fillings) (o_all_fillings : FnOk P wd K mg base CX0 k_all_fillings a.f_all_fillings a.fd_all_fillings ["many"] (spD K 1 w_all_fillings)) (l_all_fillings : k_all_fillings ≤ k) {w_values_for : WF} (m_values_for : MonoF w_values_for) (o_values_for : FnOk P wd K mg base CX0 k_values_for a.f_values_for a.fd_values_for ["gates", "filling"] (spD K 2 w_values_for)) (l_values_for : k_values_for ≤ k) {cdv : Value} {A : Around} {outer : List Env} {s : Shared} {H : Hp} {E : XK} {F : Fx} (hr : Room k (A.deeper (PyProof.Rows.envOfC "many_true" (defScope s_many_true) s.heap.objs.size a.f_many_true cdv))) :
    SSs (cxOf (L2.CX P wd) P wd K mg base N_many_true "many_true" (defScope s_many_true) a.f_many_true cdv A outer s H E) F (defBody s_many_true) (b_many_true w_need_circuit w_all_fillings w_values_for (exD K F E)) := by
  have hN := S_many_true.nd
  exact (by exact (sss_cons (by exact (ss_expr (by exact (se_call m_need_circuit o_need_circuit (hr.mono l_need_circuit) (by rfl) T.D_need_circuit.mgf T.D_need_circuit.fu.kp T.D_need_circuit.bi (passes_call (takes_of rfl rfl rfl rfl) fun _ _ _ _ h => h) (by exact (sp_d (by exact (se_var (pv 0))) sp_nil)))))) (sss_cons (by exact (ss_set (i := 1) hN rfl (by first | exact Or.inl rfl | exact Or.inr rfl) (by exact (SE.v (by exact se_int))))) (sss_cons (by exact (ss_for (passes_of rfl) rfl (by exact (si_list (by exact (se_callN m_all_fillings o_all_fillings (hr.mono l_all_fillings) (by rfl) T.D_all_fillings.mgf T.D_all_fillings.fu.kp T.D_all_fillings.bi pass0 (by exact (sp_d (by exact (se_callB call_lenQ cl_len (by rfl) (by exact T.b_len) (by decide +kernel) (by exact (sa_cons (by exact (se_ix (by exact (se_var (pv 0))) (by exact se_int))) sa_nil)))) sp_nil)))))) (by exact (sg_name (i := 2) hN rfl (by first | exact Or.inl rfl | exact Or.inr rfl))) (by exact (sss_one (by exact (ss_aug (i := 1) hN rfl (by first | exact Or.inl rfl | exact Or.inr rfl) (by exact (se_callTy call_int1 cl_int (by rfl) (by exact T.b_int) (by decide +kernel) (by exact (sa_cons (by exact (se_ix (by exact (se_callN m_values_for o_values_for (hr.mono l_values_for) (by rfl) T.D_values_for.mgf T.D_values_for.fu.kp T.D_values_for.bi pass0 (by exact (sp_d (by exact (se_ix (by exact (se_var (pv 0))) (by exact se_int))) (sp_d (by exact (se_var (pv 2))) sp_nil))))) (by exact (se_neg (by exact se_int))))) sa_nil)))))))))) (sss_one (by exact (ss_ret (by exact (se_var (pv 1))))))))))
theorem S__law_draw : FnScope N__law_draw ["deck", "many"] (defScope s__law_draw) := ⟨rfl, rfl, rfl, by decide +kernel, rfl, by decide +kernel, by decide +kernel⟩
theorem d__law_draw {P : Program} {wd : World} {K : PySem.W.Frag} {mg : Str → Option Value} {base : Heap} {a : Adr} (T : Tx K mg a) {k : Nat} {cdv : Value} {A : Around} {outer : List Env} {s : Shared} {H : Hp} {E : XK} {F : Fx} (hr : Room k (A.deeper (PyProof.Rows.envOfC "_law_draw" (defScope s__law_draw) s.heap.objs.size a.f__law_draw cdv))) :
    SSs (cxOf CX0 P wd K mg base N__law_draw "_law_draw" (defScope s__law_draw) a.f__law_draw cdv A outer s H E).nox F (defBody s__law_draw) (b__law_draw) := by
  have hN := S__law_draw.nd
  exact (by exact (sss_cons (by exact (ss_dkP hr.units (pv 0) (by exact (se_op op_addD op2_add (by exact (se_dkI (by first | exact Or.inl rfl | exact Or.inr rfl) hr.units (pv 0))) (by exact se_int))))) (sss_cons (by exact (ss_set (i := 2) hN rfl (by first | exact Or.inl rfl | exact Or.inr rfl) (by exact (SE.v (by exact (se_op op_addD op2_add (by exact (se_dkI (by first | exact Or.inl rfl | exact Or.inr rfl) hr.units (pv 0))) (by exact (se_op op_mulQ op2_mulQ (by exact se_int) (by exact (se_dkI (by first | exact Or.inl rfl | exact Or.inr rfl) hr.units (pv 0))))))))))) (sss_cons (by exact (ss_dkIf (by exact (ps_if (by exact (pt_cmpR (op_neQ hr.units) (by exact (pe_dget (hu_of hr) (pv 0) pe_str nosl_c)) (by exact (pe_lst pa_nil)) (nomark _))) (by exact (pss_cons (by exact (ps_set (i := 3) hN rfl (Or.inl rfl) (by exact (pe_bm0 PySem.F.plainAttrs_list PySem.F.slot_list_pop PySem.F.type_list_pop mt_pop (by exact (pe_dget (hu_of hr) (pv 0) pe_str nosl_c)) (by rfl) (by rfl))))) (by exact (pss_cons (by exact (ps_if (by exact (pt_cmpR op_ge (by exact (pv 3)) (by exact (pe_op op_pow pe_int pe_int)) (nomark _))) (by exact (pss_cons (by exact (ps_expr (by exact (pe_bm PySem.F.plainAttrs_list PySem.F.slot_list_append PySem.F.type_list_append mt_append (by exact (pe_dget (hu_of hr) (pv 0) pe_str nosl_c)) (by exact (pa_cons (by exact (pe_op op_fdivW (by exact (pv 3)) (by exact (pe_callB (call_max2 rfl) (by rfl) (by exact T.b_max) (by decide +kernel) (by exact (pa_cons pe_int (by exact (pa_cons (by exact (pv 1)) pa_nil)))))))) pa_nil)))))) (by exact (pss_one (by exact (ps_ret (by exact (pe_op op_mod (by exact (pe_callTy call_int1 (by rfl) (by exact T.b_int) (by decide +kernel) (by exact (pa_cons (by exact (pv 3)) pa_nil)))) (by exact (pv 1)))))))))) pss_nil)) (by exact (pss_one (by exact (ps_set (i := 2) hN rfl (Or.inl rfl) (by exact (pe_op op_add (by exact (pv 2)) (by exact (pe_op op_mod (by exact (pe_callTy call_int1 (by rfl) (by exact T.b_int) (by decide +kernel) (by exact (pa_cons (by exact (pv 3)) pa_nil)))) pe_int)))))))))))) pss_nil)))) (sss_cons (by exact (ss_set (i := 2) hN rfl (by first | exact Or.inl rfl | exact Or.inr rfl) (by exact (SE.v (by exact (se_op op_mod op2_mod (by exact (se_callTy call_int1 cl_int (by rfl) (by exact T.b_int) (by decide +kernel) (by exact (sa_cons (by exact (se_op op_addD op2_add (by exact (se_op op_mulQ op2_mulQ (by exact (se_var (pv 2))) (by exact se_int))) (by exact se_int))) sa_nil)))) (by exact se_int))))))) (sss_cons (by exact (ss_set (i := 2) hN rfl (by first | exact Or.inl rfl | exact Or.inr rfl) (by exact (SE.v (by exact (se_op op_mod op2_mod (by exact (se_callTy call_int1 cl_int (by rfl) (by exact T.b_int) (by decide +kernel) (by exact (sa_cons (by exact (se_op op_addD op2_add (by exact (se_op op_addD op2_add (by exact (se_op op_mulQ op2_mulQ (by exact (se_var (pv 2))) (by exact (se_var (pv 2))))) (by exact (se_op op_mulQ op2_mulQ (by exact se_int) (by exact (se_dkI (by first | exact Or.inl rfl | exact Or.inr rfl) hr.units (pv 0))))))) (by exact se_int))) sa_nil)))) (by exact se_int))))))) (sss_one (by exact (ss_ret (by exact (se_op op_mod op2_mod (by exact (se_callTy call_int1 cl_int (by rfl) (by exact T.b_int) (by decide +kernel) (by exact (sa_cons (by exact (se_op op_fdivW op2_fdiv (by exact (se_op op_mod op2_mod (by exact (se_callTy call_int1 cl_int (by rfl) (by exact T.b_int) (by decide +kernel) (by exact (sa_cons (by exact (se_op op_mulQ op2_mulQ (by exact (se_var (pv 2))) (by exact se_int))) sa_nil)))) (by exact se_int))) (by exact se_int))) sa_nil)))) (by exact (se_var (pv 1))))))))))))))
theorem S__law_pick : FnScope N__law_pick ["deck", "some"] (defScope s__law_pick) := ⟨rfl, rfl, rfl, by decide +kernel, rfl, by decide +kernel, by decide +kernel⟩
theorem d__law_pick {P : Program} {wd : World} {K : PySem.W.Frag} {mg : Str → Option Value} {base : Heap} {a : Adr} (T : Tx K mg a) {k : Nat} {k__law_draw : Nat} {w__law_draw : WF} (m__law_draw : MonoF w__law_draw) (o__law_draw : FnOk P wd K mg base CX0 k__law_draw a.f__law_draw a.fd__law_draw ["deck", "many"] (spD K 2 w__law_draw)) (l__law_draw : k__law_draw ≤ k) {cdv : Value} {A : Around} {outer : List Env} {s : Shared} {H : Hp} {E : XK} {F : Fx} (hr : Room k (A.deeper (PyProof.Rows.envOfC "_law_pick" (defScope s__law_pick) s.heap.objs.size a.f__law_pick cdv))) :
    SSs (cxOf CX0 P wd K mg base N__law_pick "_law_pick" (defScope s__law_pick) a.f__law_pick cdv A outer s H E).nox F (defBody s__law_pick) (b__law_pick w__law_draw) := by
  have hN := S__law_pick.nd
  exact (by exact (sss_one (by exact (ss_ret (by exact (se_ix (by exact (se_var (pv 1))) (by exact (se_callN m__law_draw o__law_draw (hr.mono l__law_draw) (by rfl) T.D__law_draw.mgf T.D__law_draw.fu.kp T.D__law_draw.bi pass0 (by exact (sp_k (pv 0) (sp_d (by exact (se_callB call_lenQ cl_len (by rfl) (by exact T.b_len) (by decide +kernel) (by exact (sa_cons (by exact (se_var (pv 1))) sa_nil)))) sp_nil)))))))))))
theorem S__law_same : FnScope N__law_same ["told", "due"] (defScope s__law_same) := ⟨rfl, rfl, rfl, by decide +kernel, rfl, by decide +kernel, by decide +kernel⟩
theorem d__law_same {P : Program} {wd : World} {K : PySem.W.Frag} {mg : Str → Option Value} {base : Heap} {a : Adr} (T : Tx K mg a) {k : Nat} {cdv : Value} {A : Around} {outer : List Env} {s : Shared} {H : Hp} {E : XK} {F : Fx} (hr : Room k (A.deeper (PyProof.Rows.envOfC "_law_same" (defScope s__law_same) s.heap.objs.size a.f__law_same cdv))) :
    SSs (cxOf CX0 P wd K mg base N__law_same "_law_same" (defScope s__law_same) a.f__law_same cdv A outer s H E).nox F (defBody s__law_same) (b__law_same) := by
  have hN := S__law_same.nd
  exact (by exact (sss_cons (by exact (ss_set (i := 2) hN rfl (by first | exact Or.inl rfl | exact Or.inr rfl) (by exact (SEL.v (by exact (sl_lst (by exact (sa_cons (by exact (se_tup (by exact (sa_cons (by exact (se_var (pv 0))) (sa_cons (by exact (se_var (pv 1))) sa_nil))))) sa_nil)))))))) (sss_cons (by exact (ss_while PassesOwn.never (st_bor 2 (by exact (st_cmp (op_neQ hr.units) op2_ne (by exact (se_var (pv 2))) (by exact (SEL.se (by exact (sl_lst (by exact sa_nil))))) (nomark _)))) (by exact (sss_cons (by exact (ss_pop (by exact (sg_tup rfl (sgs_cons (by exact (sg_name (i := 3) hN rfl (by first | exact Or.inl rfl | exact Or.inr rfl))) (sgs_cons (by exact (sg_name (i := 4) hN rfl (by first | exact Or.inl rfl | exact Or.inr rfl))) sgs_nil)))) (pv 2))) (sss_one (by exact (ss_if (by exact (st_val (by exact (se_isi2 TyF.tup TyF.lst (by exact (se_var (pv 3))) (by rfl) (by exact T.b_isinstance) (by rfl) (by exact T.b_tuple) (by decide +kernel) (by rfl) (by exact T.b_list) (by decide +kernel))))) (by exact (sss_cons (by exact (ss_if (by exact (SW.st (sw_or (by exact (st_not (by exact (st_val (by exact (se_isi2 TyF.tup TyF.lst (by exact (se_var (pv 4))) (by rfl) (by exact T.b_isinstance) (by rfl) (by exact T.b_tuple) (by decide +kernel) (by rfl) (by exact T.b_list) (by decide +kernel))))))) (sw_or (by exact (st_cmp (op_neQ hr.units) op2_ne (by exact (se_isi TyF.tup (by exact (se_var (pv 3))) (by rfl) (by exact T.b_isinstance) (by rfl) (by exact T.b_tuple) (by decide +kernel))) (by exact (se_isi TyF.tup (by exact (se_var (pv 4))) (by rfl) (by exact T.b_isinstance) (by rfl) (by exact T.b_tuple) (by decide +kernel))) (nomark _))) (sw_or1 (by exact (st_cmp (op_neQ hr.units) op2_ne (by exact (se_callB call_lenQ cl_len (by rfl) (by exact T.b_len) (by decide +kernel) (by exact (sa_cons (by exact (se_var (pv 3))) sa_nil)))) (by exact (se_callB call_lenQ cl_len (by rfl) (by exact T.b_len) (by decide +kernel) (by exact (sa_cons (by exact (se_var (pv 4))) sa_nil)))) (nomark _)))))))) (by exact (sss_one (by exact (ss_ret (by exact se_bl))))) (by exact sss_nil))) (sss_one (by exact (ss_ext (pv 2) (by exact (sl_zip (by rfl) (by rfl) (by exact T.b_list) (by rfl) (by exact T.b_zip) (by exact (se_var (pv 3))) (by exact (se_var (pv 4)))))))))) (by exact (sss_one (by exact (ss_if (by exact (st_val (by exact (se_isi2 TyF.int TyF.str (by exact (se_var (pv 3))) (by rfl) (by exact T.b_isinstance) (by rfl) (by exact T.b_int) (by decide +kernel) (by rfl) (by exact T.b_str) (by decide +kernel))))) (by exact (sss_one (by exact (ss_if (by exact (SW.st (sw_or (by exact (st_not (by exact (st_val (by exact (se_isi2 TyF.int TyF.str (by exact (se_var (pv 4))) (by rfl) (by exact T.b_isinstance) (by rfl) (by exact T.b_int) (by decide +kernel) (by rfl) (by exact T.b_str) (by decide +kernel))))))) (sw_or (by exact (st_cmp (op_neQ hr.units) op2_ne (by exact (se_isi TyF.bl (by exact (se_var (pv 3))) (by rfl) (by exact T.b_isinstance) (by rfl) (by exact T.b_bool) (by decide +kernel))) (by exact (se_isi TyF.bl (by exact (se_var (pv 4))) (by rfl) (by exact T.b_isinstance) (by rfl) (by exact T.b_bool) (by decide +kernel))) (nomark _))) (sw_or1 (by exact (st_cmp (op_neQ hr.units) op2_ne (by exact (se_var (pv 3))) (by exact (se_var (pv 4))) (nomark _)))))))) (by exact (sss_one (by exact (ss_ret (by exact se_bl))))) (by exact sss_nil))))) (by exact (sss_one (by exact (ss_if (by exact (SW.st (sw_or (by exact (st_cmp op_notN op2_notN (by exact (se_var (pv 3))) (by exact se_non) (nomark _))) (sw_or1 (by exact (st_cmp op_notN op2_notN (by exact (se_var (pv 4))) (by exact se_non) (nomark _))))))) (by exact (sss_one (by exact (ss_ret (by exact se_bl))))) (by exact sss_nil)))))))))))))))) (sss_one (by exact (ss_ret (by exact se_bl)))))))
theorem S__law_near_number : FnScope N__law_near_number ["deck", "g"] (defScope s__law_near_number) := ⟨rfl, rfl, rfl, by decide +kernel, rfl, by decide +kernel, by decide +kernel⟩
theorem d__law_near_number {P : Program} {wd : World} {K : PySem.W.Frag} {mg : Str → Option Value} {base : Heap} {a : Adr} (T : Tx K mg a) {k : Nat} {k__law_draw : Nat} {w__law_draw : WF} (m__law_draw : MonoF w__law_draw) (o__law_draw : FnOk P wd K mg base CX0 k__law_draw a.f__law_draw a.fd__law_draw ["deck", "many"] (spD K 2 w__law_draw)) (l__law_draw : k__law_draw ≤ k) {cdv : Value} {A : Around} {outer : List Env} {s : Shared} {H : Hp} {E : XK} {F : Fx} (hr : Room k (A.deeper (PyProof.Rows.envOfC "_law_near_number" (defScope s__law_near_number) s.heap.objs.size a.f__law_near_number cdv))) :
    SSs (cxOf CX0 P wd K mg base N__law_near_number "_law_near_number" (defScope s__law_near_number) a.f__law_near_number cdv A outer s H E).nox F (defBody s__law_near_number) (b__law_near_number w__law_draw) := by
  have hN := S__law_near_number.nd
  exact (by exact (sss_one (by exact (ss_ret (by exact (se_if (by exact (st_cmp (op_eqQ hr.units) op2_eq (by exact (se_callN m__law_draw o__law_draw (hr.mono l__law_draw) (by rfl) T.D__law_draw.mgf T.D__law_draw.fu.kp T.D__law_draw.bi pass0 (by exact (sp_k (pv 0) (sp_d (by exact se_int) sp_nil))))) (by exact se_int) (nomark _))) (by exact (se_callB (call_max2 rfl) cl_max (by rfl) (by exact T.b_max) (by decide +kernel) (by exact (sa_cons (by exact se_int) (sa_cons (by exact (se_op op_sub op2_sub (by exact (se_op op_sub op2_sub (by exact (se_var (pv 1))) (by exact se_int))) (by exact (se_callN m__law_draw o__law_draw (hr.mono l__law_draw) (by rfl) T.D__law_draw.mgf T.D__law_draw.fu.kp T.D__law_draw.bi pass0 (by exact (sp_k (pv 0) (sp_d (by exact se_int) sp_nil))))))) sa_nil))))) (by exact (se_callN m__law_draw o__law_draw (hr.mono l__law_draw) (by rfl) T.D__law_draw.mgf T.D__law_draw.fu.kp T.D__law_draw.bi pass0 (by exact (sp_k (pv 0) (sp_d (by exact (se_var (pv 1))) sp_nil)))))))))))
theorem S__law_drawn_circuit : FnScope N__law_drawn_circuit ["deck", "m", "many"] (defScope s__law_drawn_circuit) := ⟨rfl, rfl, rfl, by decide +kernel, rfl, by decide +kernel, by decide +kernel⟩
theorem d__law_drawn_circuit {P : Program} {wd : World} {K : PySem.W.Frag} {mg : Str → Option Value} {base : Heap} {a : Adr} (T : Tx K mg a) {k : Nat} {k__law_near_number : Nat} {k__law_pick : Nat} {k__law_draw : Nat} {w__law_draw : WF} (m__law_draw : MonoF w__law_draw) (o__law_draw : FnOk P wd K mg base CX0 k__law_draw a.f__law_draw a.fd__law_draw ["deck", "many"] (spD K 2 w__law_draw)) (l__law_draw : k__law_draw ≤ k) {w__law_pick : WF} (m__law_pick : MonoF w__law_pick) (o__law_pick : FnOk P wd K mg base CX0 k__law_pick a.f__law_pick a.fd__law_pick ["deck", "some"] (spD K 2 w__law_pick)) (l__law_pick : k__law_pick ≤ k) {w__law_near_number : WF} (m__law_near_number : MonoF w__law_near_number) (o__law_near_number : FnOk P wd K mg base CX0 k__law_near_number a.f__law_near_number a.fd__law_near_number ["deck", "g"] (spD K 2 w__law_near_number)) (l__law_near_number : k__law_near_number ≤ k) {cdv : Value} {A : Around} {outer : List Env} {s : Shared} {H : Hp} {E : XK} {F : Fx} (hr : Room k (A.deeper (PyProof.Rows.envOfC "_law_drawn_circuit" (defScope s__law_drawn_circuit) s.heap.objs.size a.f__law_drawn_circuit cdv))) :
    SSs (cxOf CX0 P wd K mg base N__law_drawn_circuit "_law_drawn_circuit" (defScope s__law_drawn_circuit) a.f__law_drawn_circuit cdv A outer s H E).nox F (defBody s__law_drawn_circuit) (b__law_drawn_circuit w__law_draw w__law_pick w__law_near_number) := by
  have hN := S__law_drawn_circuit.nd
  exact (by exact (sss_cons (by exact (ss_par (i := 3) (j := 4) rfl hN rfl rfl (by decide) rfl rfl (svs_cons (by exact (SE.v (by exact (se_mt PySem.F.slot_str_join PySem.F.type_str_join mt_join mt_joinD (by exact se_str) (by exact (sa_cons (by exact (SEL.se (by exact (sl_lc (own := [("k", 7)]) rfl hN (by exact (si_range1 (by rfl) (by exact T.b_range) (by exact (se_var (pv 1))))) (blkOk_by (N := N__law_drawn_circuit) (sc := defScope s__law_drawn_circuit) (own := [("k", 7)]) (by decide +kernel)) (fun _ _ _ _ _ => (by exact (sg_name (i := 7) hN rfl (by first | exact Or.inl rfl | exact Or.inr rfl) (Or.inr rfl)))) (fun _ _ _ _ _ => sts_nil) (fun _ _ _ _ _ => (by exact (se_callN m__law_pick o__law_pick (hr.mono l__law_pick) (by rfl) T.D__law_pick.mgf T.D__law_pick.fu.kp T.D__law_pick.bi pass0 (by exact (sp_k (pv 0) (sp_d (by exact (SEL.se (by exact (sl_lst (by exact (sa_cons (by exact se_str) (sa_cons (by exact se_str) sa_nil))))))) sp_nil)))))) (by decide))))) sa_nil)))))) (svs_cons (by exact (SEL.v (by exact (sl_lst (by exact sa_nil))))) svs_nil)) rfl)) (sss_cons (by exact (ss_for PassesOwn.never rfl (by exact (si_range1 (by rfl) (by exact T.b_range) (by exact (se_op op_addD op2_add (by exact se_int) (by exact (se_callN m__law_draw o__law_draw (hr.mono l__law_draw) (by rfl) T.D__law_draw.mgf T.D__law_draw.fu.kp T.D__law_draw.bi pass0 (by exact (sp_k (pv 0) (sp_d (by exact (se_var (pv 2))) sp_nil))))))))) (by exact (sg_name (i := 5) hN rfl (by first | exact Or.inl rfl | exact Or.inr rfl))) (by exact (sss_cons (by exact (ss_set (i := 6) hN rfl (by first | exact Or.inl rfl | exact Or.inr rfl) (by exact (SE.v (by exact (se_callN m__law_draw o__law_draw (hr.mono l__law_draw) (by rfl) T.D__law_draw.mgf T.D__law_draw.fu.kp T.D__law_draw.bi pass0 (by exact (sp_k (pv 0) (sp_d (by exact se_int) sp_nil))))))))) (sss_one (by exact (ss_if (by exact (SW.st (sw_or (by exact (st_cmp (op_eqQ hr.units) op2_eq (by exact (se_var (pv 5))) (by exact se_int) (nomark _))) (sw_or1 (by exact (st_cmp op_lt op2_lt (by exact (se_var (pv 6))) (by exact se_int) (nomark _))))))) (by exact (sss_one (by exact (ss_app (pv 4) (by exact (se_if (by exact (SW.st (sw_or (by exact (st_cmp (op_eqQ hr.units) op2_eq (by exact (se_var (pv 1))) (by exact se_int) (nomark _))) (sw_or1 (by exact (SW.st (sw_and (by exact (st_cmp (op_eqQ hr.units) op2_eq (by exact (se_var (pv 6))) (by exact se_int) (nomark _))) (sw_and1 (by exact (st_cmp (op_eqQ hr.units) op2_eq (by exact (se_callN m__law_draw o__law_draw (hr.mono l__law_draw) (by rfl) T.D__law_draw.mgf T.D__law_draw.fu.kp T.D__law_draw.bi pass0 (by exact (sp_k (pv 0) (sp_d (by exact se_int) sp_nil))))) (by exact se_int) (nomark _))))))))))) (by exact (se_tup (by exact (sa_cons (by exact se_str) sa_nil)))) (by exact (se_tup (by exact (sa_cons (by exact se_str) (sa_cons (by exact (se_callN m__law_draw o__law_draw (hr.mono l__law_draw) (by rfl) T.D__law_draw.mgf T.D__law_draw.fu.kp T.D__law_draw.bi pass0 (by exact (sp_k (pv 0) (sp_d (by exact (se_var (pv 1))) sp_nil))))) sa_nil))))))))))) (by exact (sss_one (by exact (ss_if (by exact (st_cmp (op_eqQ hr.units) op2_eq (by exact (se_var (pv 6))) (by exact se_int) (nomark _))) (by exact (sss_one (by exact (ss_app (pv 4) (by exact (se_tup (by exact (sa_cons (by exact se_str) (sa_cons (by exact (se_callN m__law_near_number o__law_near_number (hr.mono l__law_near_number) (by rfl) T.D__law_near_number.mgf T.D__law_near_number.fu.kp T.D__law_near_number.bi pass0 (by exact (sp_k (pv 0) (sp_d (by exact (se_var (pv 5))) sp_nil))))) sa_nil))))))))) (by exact (sss_one (by exact (ss_app (pv 4) (by exact (se_tup (by exact (sa_cons (by exact (se_callN m__law_pick o__law_pick (hr.mono l__law_pick) (by rfl) T.D__law_pick.mgf T.D__law_pick.fu.kp T.D__law_pick.bi pass0 (by exact (sp_k (pv 0) (sp_d (by exact (SEL.se (by exact (sl_lst (by exact (sa_cons (by exact se_str) (sa_cons (by exact se_str) sa_nil))))))) sp_nil))))) (sa_cons (by exact (se_callN m__law_near_number o__law_near_number (hr.mono l__law_near_number) (by rfl) T.D__law_near_number.mgf T.D__law_near_number.fu.kp T.D__law_near_number.bi pass0 (by exact (sp_k (pv 0) (sp_d (by exact (se_var (pv 5))) sp_nil))))) (sa_cons (by exact (se_callN m__law_near_number o__law_near_number (hr.mono l__law_near_number) (by rfl) T.D__law_near_number.mgf T.D__law_near_number.fu.kp T.D__law_near_number.bi pass0 (by exact (sp_k (pv 0) (sp_d (by exact (se_var (pv 5))) sp_nil))))) sa_nil))))))))))))))))))))) (sss_one (by exact (ss_frz 4 (ss_ret (by exact (se_tup (by exact (sa_cons (by exact (se_var (pv 3))) (sa_cons (by exact (se_callTy call_tuple_of cl_tuple (by rfl) (by exact T.b_tuple) (by decide +kernel) (by exact (sa_cons (by exact (se_var (pv 4))) sa_nil)))) sa_nil))))))))))))
theorem S__law_values : FnScope N__law_values ["gates", "filling"] (defScope s__law_values) := ⟨rfl, rfl, rfl, by decide +kernel, rfl, by decide +kernel, by decide +kernel⟩
theorem d__law_values {P : Program} {wd : World} {K : PySem.W.Frag} {mg : Str → Option Value} {base : Heap} {a : Adr} (T : Tx K mg a) {k : Nat} {cdv : Value} {A : Around} {outer : List Env} {s : Shared} {H : Hp} {E : XK} {F : Fx} (hr : Room k (A.deeper (PyProof.Rows.envOfC "_law_values" (defScope s__law_values) s.heap.objs.size a.f__law_values cdv))) :
    SSs (cxOf CX0 P wd K mg base N__law_values "_law_values" (defScope s__law_values) a.f__law_values cdv A outer s H E).nox F (defBody s__law_values) (b__law_values) := by
  have hN := S__law_values.nd
  exact (by exact (sss_cons (by exact (ss_set (i := 2) hN rfl (by first | exact Or.inl rfl | exact Or.inr rfl) (by exact (SEL.v (by exact (sl_lst (by exact sa_nil))))))) (sss_cons (by exact (ss_for PassesOwn.never rfl (by exact (si_tup (by exact (se_var (pv 0))))) (by exact (sg_name (i := 3) hN rfl (by first | exact Or.inl rfl | exact Or.inr rfl))) (by exact (sss_cons (by exact (ss_set (i := 4) hN rfl (by first | exact Or.inl rfl | exact Or.inr rfl) (by exact (SE.v (by exact (se_ix (by exact (se_var (pv 3))) (by exact se_int))))))) (sss_one (by exact (ss_if (by exact (st_cmp (op_eqQ hr.units) op2_eq (by exact (se_var (pv 4))) (by exact se_str) (nomark _))) (by exact (sss_one (by exact (ss_app (pv 2) (by exact se_bl))))) (by exact (sss_one (by exact (ss_if (by exact (st_cmp (op_eqQ hr.units) op2_eq (by exact (se_var (pv 4))) (by exact se_str) (nomark _))) (by exact (sss_one (by exact (ss_app (pv 2) (by exact (se_cmp (op_eqQ hr.units) op2_eq (by exact (se_ix (by exact (se_var (pv 1))) (by exact (se_ix (by exact (se_var (pv 3))) (by exact se_int))))) (by exact se_str) (nomark _))))))) (by exact (sss_one (by exact (ss_if (by exact (st_cmp (op_eqQ hr.units) op2_eq (by exact (se_var (pv 4))) (by exact se_str) (nomark _))) (by exact (sss_one (by exact (ss_app (pv 2) (by exact (se_not (by exact (se_ixO (pv 2) (by exact (se_ix (by exact (se_var (pv 3))) (by exact se_int))))))))))) (by exact (sss_cons (by exact (ss_par (i := 5) (j := 6) rfl hN rfl rfl (by decide) rfl rfl (svs_cons (by exact (SE.v (by exact (se_ixO (pv 2) (by exact (se_ix (by exact (se_var (pv 3))) (by exact se_int))))))) (svs_cons (by exact (SE.v (by exact (se_ixO (pv 2) (by exact (se_ix (by exact (se_var (pv 3))) (by exact se_int))))))) svs_nil)) rfl)) (sss_one (by exact (ss_app (pv 2) (by exact (se_if (by exact (st_cmp (op_eqQ hr.units) op2_eq (by exact (se_var (pv 4))) (by exact se_str) (nomark _))) (by exact (se_and (by exact (se_var (pv 5))) (se_one (by exact (se_var (pv 6)))))) (by exact (se_or (by exact (se_var (pv 5))) (se_one (by exact (se_var (pv 6)))))))))))))))))))))))))))) (sss_one (by exact (ss_frz 2 (ss_ret (by exact (se_var (pv 2))))))))))
theorem S__law_fillings : FnScope N__law_fillings ["m"] (defScope s__law_fillings) := ⟨rfl, rfl, rfl, by decide +kernel, rfl, by decide +kernel, by decide +kernel⟩
theorem d__law_fillings {P : Program} {wd : World} {K : PySem.W.Frag} {mg : Str → Option Value} {base : Heap} {a : Adr} (T : Tx K mg a) {k : Nat} {cdv : Value} {A : Around} {outer : List Env} {s : Shared} {H : Hp} {E : XK} {F : Fx} (hr : Room k (A.deeper (PyProof.Rows.envOfC "_law_fillings" (defScope s__law_fillings) s.heap.objs.size a.f__law_fillings cdv))) :
    SSs (cxOf CX0 P wd K mg base N__law_fillings "_law_fillings" (defScope s__law_fillings) a.f__law_fillings cdv A outer s H E).nox F (defBody s__law_fillings) (b__law_fillings) := by
  have hN := S__law_fillings.nd
  exact (by exact (sss_cons (by exact (ss_set (i := 1) hN rfl (by first | exact Or.inl rfl | exact Or.inr rfl) (by exact (SE.v (by exact (SEL.se (by exact (sl_lst (by exact (sa_cons (by exact se_str) sa_nil)))))))))) (sss_cons (by exact (ss_for PassesOwn.never rfl (by exact (si_range1 (by rfl) (by exact T.b_range) (by exact (se_var (pv 0))))) (by exact (sg_name (i := 2) hN rfl (by first | exact Or.inl rfl | exact Or.inr rfl))) (by exact (sss_cons (by exact (ss_set (i := 3) hN rfl (by first | exact Or.inl rfl | exact Or.inr rfl) (by exact (SEL.v (by exact (sl_lst (by exact sa_nil))))))) (sss_cons (by exact (ss_for PassesOwn.never rfl (by exact (si_list (by exact (SEL.se (by exact (sl_list (by rfl) (by exact T.b_list) (by decide +kernel) (by exact (se_var (pv 1))))))))) (by exact (sg_name (i := 4) hN rfl (by first | exact Or.inl rfl | exact Or.inr rfl))) (by exact (sss_one (by exact (ss_ext (pv 3) (by exact (sl_lst (by exact (sa_cons (by exact (se_op op_addD op2_add (by exact (se_var (pv 4))) (by exact se_str))) (sa_cons (by exact (se_op op_addD op2_add (by exact (se_var (pv 4))) (by exact se_str))) sa_nil))))))))))) (sss_one (by exact (ss_frz 3 (ss_set (i := 1) hN rfl (by first | exact Or.inl rfl | exact Or.inr rfl) (by exact (SE.v (by exact (se_var (pv 3)))))))))))))) (sss_one (by exact (ss_ret (by exact (se_var (pv 1)))))))))
theorem S__law_row : FnScope N__law_row ["circuit"] (defScope s__law_row) := ⟨rfl, rfl, rfl, by decide +kernel, rfl, by decide +kernel, by decide +kernel⟩
theorem d__law_row {P : Program} {wd : World} {K : PySem.W.Frag} {mg : Str → Option Value} {base : Heap} {a : Adr} (T : Tx K mg a) {k : Nat} {k__law_fillings : Nat} {k__law_values : Nat} {w__law_values : WF} (m__law_values : MonoF w__law_values) (o__law_values : FnOk P wd K mg base CX0 k__law_values a.f__law_values a.fd__law_values ["gates", "filling"] (spD K 2 w__law_values)) (l__law_values : k__law_values ≤ k) {w__law_fillings : WF} (m__law_fillings : MonoF w__law_fillings) (o__law_fillings : FnOk P wd K mg base CX0 k__law_fillings a.f__law_fillings a.fd__law_fillings ["m"] (spD K 1 w__law_fillings)) (l__law_fillings : k__law_fillings ≤ k) {cdv : Value} {A : Around} {outer : List Env} {s : Shared} {H : Hp} {E : XK} {F : Fx} (hr : Room k (A.deeper (PyProof.Rows.envOfC "_law_row" (defScope s__law_row) s.heap.objs.size a.f__law_row cdv))) :
    SSs (cxOf CX0 P wd K mg base N__law_row "_law_row" (defScope s__law_row) a.f__law_row cdv A outer s H E).nox F (defBody s__law_row) (b__law_row w__law_values w__law_fillings) := by
  have hN := S__law_row.nd
  exact (by exact (sss_one (by exact (ss_ret (by exact (SEL.se (by exact (sl_lc (own := [("filling", 1)]) rfl hN (by exact (si_list (by exact (se_callN m__law_fillings o__law_fillings (hr.mono l__law_fillings) (by rfl) T.D__law_fillings.mgf T.D__law_fillings.fu.kp T.D__law_fillings.bi pass0 (by exact (sp_d (by exact (se_callB call_lenQ cl_len (by rfl) (by exact T.b_len) (by decide +kernel) (by exact (sa_cons (by exact (se_ix (by exact (se_var (pv 0))) (by exact se_int))) sa_nil)))) sp_nil)))))) (blkOk_by (N := N__law_row) (sc := defScope s__law_row) (own := [("filling", 1)]) (by decide +kernel)) (fun _ _ _ _ _ => (by exact (sg_name (i := 1) hN rfl (by first | exact Or.inl rfl | exact Or.inr rfl) (Or.inr rfl)))) (fun _ _ _ _ _ => sts_nil) (fun _ _ _ _ _ => (by exact (se_ix (by exact (se_callN m__law_values o__law_values (hr.mono l__law_values) (by rfl) T.D__law_values.mgf T.D__law_values.fu.kp T.D__law_values.bi pass0 (by exact (sp_d (by exact (se_ix (by exact (se_var (pv 0))) (by exact se_int))) (sp_d (by exact (se_var (pv 1))) sp_nil))))) (by exact (se_neg (by exact se_int)))))) (by decide)))))))))
theorem S__law_value : FnScope N__law_value ["prefix", "row"] (defScope s__law_value) := ⟨rfl, rfl, rfl, by decide +kernel, rfl, by decide +kernel, by decide +kernel⟩
theorem d__law_value {P : Program} {wd : World} {K : PySem.W.Frag} {mg : Str → Option Value} {base : Heap} {a : Adr} (T : Tx K mg a) {k : Nat} {cdv : Value} {A : Around} {outer : List Env} {s : Shared} {H : Hp} {E : XK} {F : Fx} (hr : Room k (A.deeper (PyProof.Rows.envOfC "_law_value" (defScope s__law_value) s.heap.objs.size a.f__law_value cdv))) :
    SSs (cxOf CX0 P wd K mg base N__law_value "_law_value" (defScope s__law_value) a.f__law_value cdv A outer s H E).nox F (defBody s__law_value) (b__law_value) := by
  have hN := S__law_value.nd
  exact (by exact (sss_cons (by exact (ss_for PassesOwn.never rfl (by exact (si_str (by exact (se_revStr (by exact (se_var (pv 0))))))) (by exact (sg_name (i := 2) hN rfl (by first | exact Or.inl rfl | exact Or.inr rfl))) (by exact (sss_cons (by exact (ss_set (i := 3) hN rfl (by first | exact Or.inl rfl | exact Or.inr rfl) (by exact (SE.v (by exact (SEL.se (by exact (sl_zip (by rfl) (by rfl) (by exact T.b_list) (by rfl) (by exact T.b_zip) (by exact (se_step (by decide) (by exact (se_var (pv 1))) (by exact so_none))) (by exact (se_step (by decide) (by exact (se_var (pv 1))) (by exact (so_some (by exact se_int))))))))))))) (sss_one (by exact (ss_setLc (own := [("one", 4), ("other", 5)]) (i := 1) rfl hN rfl rfl (sw_true rfl rfl rfl rfl) (by exact (si_list (by exact (se_var (pv 3))))) (blkOk_by (N := N__law_value) (sc := defScope s__law_value) (own := [("one", 4), ("other", 5)]) (by decide +kernel)) (fun _ _ _ _ _ => (by exact (sg_tup rfl (sgs_cons (by exact (sg_name (i := 4) hN rfl (by first | exact Or.inl rfl | exact Or.inr rfl) (Or.inr rfl))) (sgs_cons (by exact (sg_name (i := 5) hN rfl (by first | exact Or.inl rfl | exact Or.inr rfl) (Or.inr rfl))) sgs_nil))))) (fun _ _ _ _ _ => sts_nil) (fun _ _ _ _ _ => (by exact (se_if (by exact (st_cmp (op_eqQ hr.units) op2_eq (by exact (se_var (pv 2))) (by exact se_str) (nomark _))) (by exact (se_or (by exact (se_var (pv 4))) (se_one (by exact (se_var (pv 5)))))) (by exact (se_and (by exact (se_var (pv 4))) (se_one (by exact (se_var (pv 5))))))))) (by decide) (Or.inr rfl) ))))))) (sss_one (by exact (ss_ret (by exact (se_ix (by exact (se_var (pv 1))) (by exact se_int))))))))
theorem S__law_is_whole : FnScope N__law_is_whole ["thing"] (defScope s__law_is_whole) := ⟨rfl, rfl, rfl, by decide +kernel, rfl, by decide +kernel, by decide +kernel⟩
theorem d__law_is_whole {P : Program} {wd : World} {K : PySem.W.Frag} {mg : Str → Option Value} {base : Heap} {a : Adr} (T : Tx K mg a) {k : Nat} {cdv : Value} {A : Around} {outer : List Env} {s : Shared} {H : Hp} {E : XK} {F : Fx} (hr : Room k (A.deeper (PyProof.Rows.envOfC "_law_is_whole" (defScope s__law_is_whole) s.heap.objs.size a.f__law_is_whole cdv))) :
    SSs (cxOf CX0 P wd K mg base N__law_is_whole "_law_is_whole" (defScope s__law_is_whole) a.f__law_is_whole cdv A outer s H E).nox F (defBody s__law_is_whole) (b__law_is_whole) := by
  have hN := S__law_is_whole.nd
  exact (by exact (sss_one (by exact (ss_ret (by exact (se_and (by exact (se_isi TyF.int (by exact (se_var (pv 0))) (by rfl) (by exact T.b_isinstance) (by rfl) (by exact T.b_int) (by decide +kernel))) (se_one (by exact (se_not (by exact (se_isi TyF.bl (by exact (se_var (pv 0))) (by rfl) (by exact T.b_isinstance) (by rfl) (by exact T.b_bool) (by decide +kernel))))))))))))
theorem S__law_is_gate : FnScope N__law_is_gate ["m", "g", "thing"] (defScope s__law_is_gate) := ⟨rfl, rfl, rfl, by decide +kernel, rfl, by decide +kernel, by decide +kernel⟩
theorem d__law_is_gate {P : Program} {wd : World} {K : PySem.W.Frag} {mg : Str → Option Value} {base : Heap} {a : Adr} (T : Tx K mg a) {k : Nat} {k__law_is_whole : Nat} {w__law_is_whole : WF} (m__law_is_whole : MonoF w__law_is_whole) (o__law_is_whole : FnOk P wd K mg base CX0 k__law_is_whole a.f__law_is_whole a.fd__law_is_whole ["thing"] (spD K 1 w__law_is_whole)) (l__law_is_whole : k__law_is_whole ≤ k) {cdv : Value} {A : Around} {outer : List Env} {s : Shared} {H : Hp} {E : XK} {F : Fx} (hr : Room k (A.deeper (PyProof.Rows.envOfC "_law_is_gate" (defScope s__law_is_gate) s.heap.objs.size a.f__law_is_gate cdv))) :
    SSs (cxOf CX0 P wd K mg base N__law_is_gate "_law_is_gate" (defScope s__law_is_gate) a.f__law_is_gate cdv A outer s H E).nox F (defBody s__law_is_gate) (b__law_is_gate w__law_is_whole) := by
  have hN := S__law_is_gate.nd
  exact (by exact (sss_cons (by exact (ss_if (by exact (SW.st (sw_or (by exact (st_not (by exact (st_val (by exact (se_isi TyF.tup (by exact (se_var (pv 2))) (by rfl) (by exact T.b_isinstance) (by rfl) (by exact T.b_tuple) (by decide +kernel))))))) (sw_or (by exact (st_cmp (op_eqQ hr.units) op2_eq (by exact (se_var (pv 2))) (by exact (se_tup (by exact sa_nil))) (nomark _))) (sw_or1 (by exact (st_not (by exact (st_val (by exact (se_isi TyF.str (by exact (se_ix (by exact (se_var (pv 2))) (by exact se_int))) (by rfl) (by exact T.b_isinstance) (by rfl) (by exact T.b_str) (by decide +kernel)))))))))))) (by exact (sss_one (by exact (ss_ret (by exact se_bl))))) (by exact sss_nil))) (sss_cons (by exact (ss_set (i := 3) hN rfl (by first | exact Or.inl rfl | exact Or.inr rfl) (by exact (sv_disp [("yes", 1), ("v", 2), ("not", 2), ("and", 3), ("or", 3)] (pps_cons pe_str pe_int (pps_cons pe_str pe_int (pps_cons pe_str pe_int (pps_cons pe_str pe_int (pps_cons pe_str pe_int pps_nil))))) (by decide) (by decide))))) (sss_cons (by exact (ss_if (by exact (SW.st (sw_or (by exact (st_cmp (op_neQ hr.units) op2_ne (by exact (se_getO hr.units (pv 3) (by exact (se_ix (by exact (se_var (pv 2))) (by exact se_int))) (by exact se_int))) (by exact (se_callB call_lenQ cl_len (by rfl) (by exact T.b_len) (by decide +kernel) (by exact (sa_cons (by exact (se_var (pv 2))) sa_nil)))) (nomark _))) (sw_or1 (by exact (st_cmp (op_neQ hr.units) op2_ne (by exact (SEL.se (by exact (sl_lc (own := [("it", 4)]) rfl hN (by exact (si_tup (by exact (se_sl (by exact (se_var (pv 2))) (by exact (so_some (by exact se_int))) (by exact so_none))))) (blkOk_by (N := N__law_is_gate) (sc := defScope s__law_is_gate) (own := [("it", 4)]) (by decide +kernel)) (fun _ _ _ _ _ => (by exact (sg_name (i := 4) hN rfl (by first | exact Or.inl rfl | exact Or.inr rfl) (Or.inr rfl)))) (fun _ _ _ _ _ => (sts_one (by exact (st_not (by exact (st_val (by exact (se_callN m__law_is_whole o__law_is_whole (hr.mono l__law_is_whole) (by rfl) T.D__law_is_whole.mgf T.D__law_is_whole.fu.kp T.D__law_is_whole.bi pass0 (by exact (sp_d (by exact (se_var (pv 4))) sp_nil)))))))))) (fun _ _ _ _ _ => (by exact se_int)) (by decide))))) (by exact (SEL.se (by exact (sl_lst (by exact sa_nil))))) (nomark _))))))) (by exact (sss_one (by exact (ss_ret (by exact se_bl))))) (by exact sss_nil))) (sss_one (by exact (ss_ret (by exact (se_cmp (op_eqQ hr.units) op2_eq (by exact (SEL.se (by exact (sl_lc (own := [("it", 4)]) rfl hN (by exact (si_tup (by exact (se_sl (by exact (se_var (pv 2))) (by exact (so_some (by exact se_int))) (by exact so_none))))) (blkOk_by (N := N__law_is_gate) (sc := defScope s__law_is_gate) (own := [("it", 4)]) (by decide +kernel)) (fun _ _ _ _ _ => (by exact (sg_name (i := 4) hN rfl (by first | exact Or.inl rfl | exact Or.inr rfl) (Or.inr rfl)))) (fun _ _ _ _ _ => (sts_one (by exact (st_not (by exact (st_chain op_le op_lt op2_le op2_lt (by exact se_int) (by exact (se_var (pv 4))) (by exact (se_if (by exact (st_cmp (op_eqQ hr.units) op2_eq (by exact (se_ix (by exact (se_var (pv 2))) (by exact se_int))) (by exact se_str) (nomark _))) (by exact (se_var (pv 0))) (by exact (se_var (pv 1))))))))))) (fun _ _ _ _ _ => (by exact se_int)) (by decide))))) (by exact (SEL.se (by exact (sl_lst (by exact sa_nil))))) (nomark _))))))))))
theorem S__law_is_circuit : FnScope N__law_is_circuit ["thing"] (defScope s__law_is_circuit) := ⟨rfl, rfl, rfl, by decide +kernel, rfl, by decide +kernel, by decide +kernel⟩
theorem d__law_is_circuit {P : Program} {wd : World} {K : PySem.W.Frag} {mg : Str → Option Value} {base : Heap} {a : Adr} (T : Tx K mg a) {k : Nat} {k__law_is_gate : Nat} {w__law_is_gate : WF} (m__law_is_gate : MonoF w__law_is_gate) (o__law_is_gate : FnOk P wd K mg base CX0 k__law_is_gate a.f__law_is_gate a.fd__law_is_gate ["m", "g", "thing"] (spD K 3 w__law_is_gate)) (l__law_is_gate : k__law_is_gate ≤ k) {cdv : Value} {A : Around} {outer : List Env} {s : Shared} {H : Hp} {E : XK} {F : Fx} (hr : Room k (A.deeper (PyProof.Rows.envOfC "_law_is_circuit" (defScope s__law_is_circuit) s.heap.objs.size a.f__law_is_circuit cdv))) :
    SSs (cxOf CX0 P wd K mg base N__law_is_circuit "_law_is_circuit" (defScope s__law_is_circuit) a.f__law_is_circuit cdv A outer s H E).nox F (defBody s__law_is_circuit) (b__law_is_circuit w__law_is_gate) := by
  have hN := S__law_is_circuit.nd
  exact (by exact (sss_cons (by exact (ss_if (by exact (SW.st (sw_or (by exact (st_not (by exact (st_val (by exact (se_isi TyF.tup (by exact (se_var (pv 0))) (by rfl) (by exact T.b_isinstance) (by rfl) (by exact T.b_tuple) (by decide +kernel))))))) (sw_or (by exact (st_cmp (op_neQ hr.units) op2_ne (by exact (se_callB call_lenQ cl_len (by rfl) (by exact T.b_len) (by decide +kernel) (by exact (sa_cons (by exact (se_var (pv 0))) sa_nil)))) (by exact se_int) (nomark _))) (sw_or (by exact (st_not (by exact (st_val (by exact (se_isi TyF.str (by exact (se_ix (by exact (se_var (pv 0))) (by exact se_int))) (by rfl) (by exact T.b_isinstance) (by rfl) (by exact T.b_str) (by decide +kernel))))))) (sw_or1 (by exact (st_not (by exact (st_val (by exact (se_isi TyF.tup (by exact (se_ix (by exact (se_var (pv 0))) (by exact se_int))) (by rfl) (by exact T.b_isinstance) (by rfl) (by exact T.b_tuple) (by decide +kernel))))))))))))) (by exact (sss_one (by exact (ss_ret (by exact se_bl))))) (by exact sss_nil))) (sss_cons (by exact (ss_if (by exact (SW.st (sw_or (by exact (st_cmp (op_eqQ hr.units) op2_eq (by exact (se_ix (by exact (se_var (pv 0))) (by exact se_int))) (by exact (se_tup (by exact sa_nil))) (nomark _))) (sw_or1 (by exact (st_cmp (op_neQ hr.units) op2_ne (by exact (SEL.se (by exact (sl_lc (own := [("letter", 3)]) rfl hN (by exact (si_str (by exact (se_ix (by exact (se_var (pv 0))) (by exact se_int))))) (blkOk_by (N := N__law_is_circuit) (sc := defScope s__law_is_circuit) (own := [("letter", 3)]) (by decide +kernel)) (fun _ _ _ _ _ => (by exact (sg_name (i := 3) hN rfl (by first | exact Or.inl rfl | exact Or.inr rfl) (Or.inr rfl)))) (fun _ _ _ _ _ => (sts_one (by exact (st_cmp op_inS1 (op2_inS (neg := true)) (by exact (se_var (pv 3))) (by exact se_str) rfl)))) (fun _ _ _ _ _ => (by exact se_int)) (by decide))))) (by exact (SEL.se (by exact (sl_lst (by exact sa_nil))))) (nomark _))))))) (by exact (sss_one (by exact (ss_ret (by exact se_bl))))) (by exact sss_nil))) (sss_one (by exact (ss_ret (by exact (se_cmp (op_eqQ hr.units) op2_eq (by exact (SEL.se (by exact (sl_lc (own := [("g", 1), ("gate", 2)]) rfl hN (by exact (si_enumT (by rfl) (by exact T.b_enumerate) (by exact (se_ix (by exact (se_var (pv 0))) (by exact se_int))))) (blkOk_by (N := N__law_is_circuit) (sc := defScope s__law_is_circuit) (own := [("g", 1), ("gate", 2)]) (by decide +kernel)) (fun _ _ _ _ _ => (by exact (sg_tup rfl (sgs_cons (by exact (sg_name (i := 1) hN rfl (by first | exact Or.inl rfl | exact Or.inr rfl) (Or.inr rfl))) (sgs_cons (by exact (sg_name (i := 2) hN rfl (by first | exact Or.inl rfl | exact Or.inr rfl) (Or.inr rfl))) sgs_nil))))) (fun _ _ _ _ _ => (sts_one (by exact (st_not (by exact (st_val (by exact (se_callN m__law_is_gate o__law_is_gate (hr.mono l__law_is_gate) (by rfl) T.D__law_is_gate.mgf T.D__law_is_gate.fu.kp T.D__law_is_gate.bi pass0 (by exact (sp_d (by exact (se_callB call_lenQ cl_len (by rfl) (by exact T.b_len) (by decide +kernel) (by exact (sa_cons (by exact (se_ix (by exact (se_var (pv 0))) (by exact se_int))) sa_nil)))) (sp_d (by exact (se_var (pv 1))) (sp_d (by exact (se_var (pv 2))) sp_nil)))))))))))) (fun _ _ _ _ _ => (by exact se_int)) (by decide))))) (by exact (SEL.se (by exact (sl_lst (by exact sa_nil))))) (nomark _)))))))))
theorem S__law_bent : FnScope N__law_bent ["deck", "thing"] (defScope s__law_bent) := ⟨rfl, rfl, rfl, by decide +kernel, rfl, by decide +kernel, by decide +kernel⟩
theorem d__law_bent {P : Program} {wd : World} {K : PySem.W.Frag} {mg : Str → Option Value} {base : Heap} {a : Adr} (T : Tx K mg a) {k : Nat} {k__law_bent : Nat} {k__law_draw : Nat} {k__law_pick : Nat} {w__law_pick : WF} (m__law_pick : MonoF w__law_pick) (o__law_pick : FnOk P wd K mg base CX0 k__law_pick a.f__law_pick a.fd__law_pick ["deck", "some"] (spD K 2 w__law_pick)) (l__law_pick : k__law_pick ≤ k) {w__law_draw : WF} (m__law_draw : MonoF w__law_draw) (o__law_draw : FnOk P wd K mg base CX0 k__law_draw a.f__law_draw a.fd__law_draw ["deck", "many"] (spD K 2 w__law_draw)) (l__law_draw : k__law_draw ≤ k) {w__law_bent : WF} (m__law_bent : MonoF w__law_bent) (o__law_bent : FnOk P wd K mg base CX0 k__law_bent a.f__law_bent a.fd__law_bent ["deck", "thing"] (spD K 2 w__law_bent)) (l__law_bent : k__law_bent ≤ k) {cdv : Value} {A : Around} {outer : List Env} {s : Shared} {H : Hp} {E : XK} {F : Fx} (hr : Room k (A.deeper (PyProof.Rows.envOfC "_law_bent" (defScope s__law_bent) s.heap.objs.size a.f__law_bent cdv))) :
    SSs (cxOf CX0 P wd K mg base N__law_bent "_law_bent" (defScope s__law_bent) a.f__law_bent cdv A outer s H E).nox F (defBody s__law_bent) (b__law_bent w__law_pick w__law_draw w__law_bent) := by
  have hN := S__law_bent.nd
  exact (by exact (sss_cons (by exact (ss_if (by exact (SW.st (sw_and (by exact (st_val (by exact (se_isi TyF.tup (by exact (se_var (pv 1))) (by rfl) (by exact T.b_isinstance) (by rfl) (by exact T.b_tuple) (by decide +kernel))))) (sw_and (by exact (st_cmp (op_neQ hr.units) op2_ne (by exact (se_var (pv 1))) (by exact (se_tup (by exact sa_nil))) (nomark _))) (sw_and1 (by exact (st_cmp op_gt op2_gt (by exact (se_callN m__law_draw o__law_draw (hr.mono l__law_draw) (by rfl) T.D__law_draw.mgf T.D__law_draw.fu.kp T.D__law_draw.bi pass0 (by exact (sp_k (pv 0) (sp_d (by exact se_int) sp_nil))))) (by exact se_int) (nomark _)))))))) (by exact (sss_cons (by exact (ss_par (i := 2) (j := 3) rfl hN rfl rfl (by decide) rfl rfl (svs_cons (by exact (SE.v (by exact (se_callN m__law_draw o__law_draw (hr.mono l__law_draw) (by rfl) T.D__law_draw.mgf T.D__law_draw.fu.kp T.D__law_draw.bi pass0 (by exact (sp_k (pv 0) (sp_d (by exact (se_callB call_lenQ cl_len (by rfl) (by exact T.b_len) (by decide +kernel) (by exact (sa_cons (by exact (se_var (pv 1))) sa_nil)))) sp_nil))))))) (svs_cons (by exact (SE.v (by exact (se_callN m__law_draw o__law_draw (hr.mono l__law_draw) (by rfl) T.D__law_draw.mgf T.D__law_draw.fu.kp T.D__law_draw.bi pass0 (by exact (sp_k (pv 0) (sp_d (by exact se_int) sp_nil))))))) svs_nil)) rfl)) (sss_cons (by exact (ss_if (by exact (st_cmp op_lt op2_lt (by exact (se_var (pv 3))) (by exact se_int) (nomark _))) (by exact (sss_one (by exact (ss_ret (by exact (se_op op_addD op2_add (by exact (se_op op_addD op2_add (by exact (se_sl (by exact (se_var (pv 1))) (by exact so_none) (by exact (so_some (by exact (se_var (pv 2))))))) (by exact (se_tup (by exact (sa_cons (by exact (se_callN m__law_bent o__law_bent (hr.mono l__law_bent) (by rfl) T.D__law_bent.mgf T.D__law_bent.fu.kp T.D__law_bent.bi pass0 (by exact (sp_k (pv 0) (sp_d (by exact (se_ix (by exact (se_var (pv 1))) (by exact (se_var (pv 2))))) sp_nil))))) sa_nil)))))) (by exact (se_sl (by exact (se_var (pv 1))) (by exact (so_some (by exact (se_op op_addD op2_add (by exact (se_var (pv 2))) (by exact se_int))))) (by exact so_none))))))))) (by exact sss_nil))) (sss_one (by exact (ss_ret (by exact (se_if (by exact (st_cmp (op_eqQ hr.units) op2_eq (by exact (se_var (pv 3))) (by exact se_int) (nomark _))) (by exact (se_op op_addD op2_add (by exact (se_sl (by exact (se_var (pv 1))) (by exact so_none) (by exact (so_some (by exact (se_var (pv 2))))))) (by exact (se_sl (by exact (se_var (pv 1))) (by exact (so_some (by exact (se_op op_addD op2_add (by exact (se_var (pv 2))) (by exact se_int))))) (by exact so_none))))) (by exact (se_if (by exact (st_cmp (op_eqQ hr.units) op2_eq (by exact (se_var (pv 3))) (by exact se_int) (nomark _))) (by exact (se_op op_addD op2_add (by exact (se_sl (by exact (se_var (pv 1))) (by exact so_none) (by exact (so_some (by exact (se_op op_addD op2_add (by exact (se_var (pv 2))) (by exact se_int))))))) (by exact (se_sl (by exact (se_var (pv 1))) (by exact (so_some (by exact (se_var (pv 2))))) (by exact so_none))))) (by exact (SEL.se (by exact (sl_list (by rfl) (by exact T.b_list) (by decide +kernel) (by exact (se_var (pv 1))))))))))))))))) (by exact sss_nil))) (sss_cons (by exact (ss_if (by exact (st_val (by exact (se_isi TyF.int (by exact (se_var (pv 1))) (by rfl) (by exact T.b_isinstance) (by rfl) (by exact T.b_int) (by decide +kernel))))) (by exact (sss_one (by exact (ss_ret (by exact (se_callN m__law_pick o__law_pick (hr.mono l__law_pick) (by rfl) T.D__law_pick.mgf T.D__law_pick.fu.kp T.D__law_pick.bi pass0 (by exact (sp_k (pv 0) (sp_d (by exact (SEL.se (by exact (sl_lst (by exact (sa_cons (by exact (se_op op_addD op2_add (by exact (se_var (pv 1))) (by exact se_int))) (sa_cons (by exact (se_op op_sub op2_sub (by exact (se_var (pv 1))) (by exact se_int))) (sa_cons (by exact (se_cmp (op_eqQ hr.units) op2_eq (by exact (se_var (pv 1))) (by exact se_int) (nomark _))) (sa_cons (by exact (se_cmp (op_eqQ hr.units) op2_eq (by exact (se_var (pv 1))) (by exact se_int) (nomark _))) (sa_cons (by exact (se_neg (by exact se_int))) (sa_cons (by exact (se_callTy call_str_int cl_str (by rfl) (by exact T.b_str) (by decide +kernel) (by exact (sa_cons (by exact (se_var (pv 1))) sa_nil)))) (sa_cons (by exact se_non) (sa_cons (by exact (se_op op_addD op2_add (by exact (se_var (pv 1))) (by exact se_int))) sa_nil))))))))))))) sp_nil))))))))) (by exact sss_nil))) (sss_cons (by exact (ss_if (by exact (st_val (by exact (se_isi TyF.str (by exact (se_var (pv 1))) (by rfl) (by exact T.b_isinstance) (by rfl) (by exact T.b_str) (by decide +kernel))))) (by exact (sss_one (by exact (ss_ret (by exact (se_callN m__law_pick o__law_pick (hr.mono l__law_pick) (by rfl) T.D__law_pick.mgf T.D__law_pick.fu.kp T.D__law_pick.bi pass0 (by exact (sp_k (pv 0) (sp_d (by exact (SEL.se (by exact (sl_lst (by exact (sa_cons (by exact (se_op op_addD op2_add (by exact (se_var (pv 1))) (by exact se_str))) (sa_cons (by exact (se_sl (by exact (se_var (pv 1))) (by exact (so_some (by exact se_int))) (by exact so_none))) (sa_cons (by exact (se_mt0 PySem.F.slot_str_upper PySem.F.type_str_upper mt_upper mt_upperD (by exact (se_var (pv 1))))) (sa_cons (by exact se_str) (sa_cons (by exact se_str) (sa_cons (by exact se_str) (sa_cons (by exact se_str) (sa_cons (by exact se_str) (sa_cons (by exact se_str) (sa_cons (by exact se_str) (sa_cons (by exact se_non) (sa_cons (by exact (se_op op_addD op2_add (by exact (se_var (pv 1))) (by exact se_str))) sa_nil))))))))))))))))) sp_nil))))))))) (by exact sss_nil))) (sss_one (by exact (ss_ret (by exact (se_callN m__law_pick o__law_pick (hr.mono l__law_pick) (by rfl) T.D__law_pick.mgf T.D__law_pick.fu.kp T.D__law_pick.bi pass0 (by exact (sp_k (pv 0) (sp_d (by exact (SEL.se (by exact (sl_lst (by exact (sa_cons (by exact se_non) (sa_cons (by exact (se_tup (by exact sa_nil))) (sa_cons (by exact se_int) (sa_cons (by exact (SEL.se (by exact (sl_lst (by exact sa_nil))))) (sa_cons (by exact se_str) (sa_cons (by exact (se_tup (by exact (sa_cons (by exact se_str) sa_nil)))) (sa_cons (by exact (se_tup (by exact (sa_cons (by exact (se_tup (by exact (sa_cons (by exact se_str) sa_nil)))) sa_nil)))) (sa_cons (by exact se_bl) (sa_cons (by exact (se_tup (by exact (sa_cons (by exact se_str) sa_nil)))) (sa_cons (by exact (se_tup (by exact (sa_cons (by exact se_str) (sa_cons (by exact (se_tup (by exact sa_nil))) sa_nil))))) sa_nil))))))))))))))) sp_nil))))))))))))
theorem S__law_no_circuit : FnScope N__law_no_circuit ["deck", "circuit"] (defScope s__law_no_circuit) := ⟨rfl, rfl, rfl, by decide +kernel, rfl, by decide +kernel, by decide +kernel⟩
theorem d__law_no_circuit {P : Program} {wd : World} {K : PySem.W.Frag} {mg : Str → Option Value} {base : Heap} {a : Adr} (T : Tx K mg a) {k : Nat} {k__law_is_circuit : Nat} {k__law_bent : Nat} {w__law_bent : WF} (m__law_bent : MonoF w__law_bent) (o__law_bent : FnOk P wd K mg base CX0 k__law_bent a.f__law_bent a.fd__law_bent ["deck", "thing"] (spD K 2 w__law_bent)) (l__law_bent : k__law_bent ≤ k) {w__law_is_circuit : WF} (m__law_is_circuit : MonoF w__law_is_circuit) (o__law_is_circuit : FnOk P wd K mg base CX0 k__law_is_circuit a.f__law_is_circuit a.fd__law_is_circuit ["thing"] (spD K 1 w__law_is_circuit)) (l__law_is_circuit : k__law_is_circuit ≤ k) {cdv : Value} {A : Around} {outer : List Env} {s : Shared} {H : Hp} {E : XK} {F : Fx} (hr : Room k (A.deeper (PyProof.Rows.envOfC "_law_no_circuit" (defScope s__law_no_circuit) s.heap.objs.size a.f__law_no_circuit cdv))) :
    SSs (cxOf CX0 P wd K mg base N__law_no_circuit "_law_no_circuit" (defScope s__law_no_circuit) a.f__law_no_circuit cdv A outer s H E).nox F (defBody s__law_no_circuit) (b__law_no_circuit w__law_bent w__law_is_circuit) := by
  have hN := S__law_no_circuit.nd
  exact (by exact (sss_cons (by exact (ss_for PassesOwn.never rfl (by exact (si_range1 (by rfl) (by exact T.b_range) (by exact se_int))) (by exact (sg_name (i := 2) hN rfl (by first | exact Or.inl rfl | exact Or.inr rfl))) (by exact (sss_cons (by exact (ss_set (i := 3) hN rfl (by first | exact Or.inl rfl | exact Or.inr rfl) (by exact (SE.v (by exact (se_callN m__law_bent o__law_bent (hr.mono l__law_bent) (by rfl) T.D__law_bent.mgf T.D__law_bent.fu.kp T.D__law_bent.bi pass0 (by exact (sp_k (pv 0) (sp_d (by exact (se_var (pv 1))) sp_nil))))))))) (sss_one (by exact (ss_if (by exact (st_not (by exact (st_val (by exact (se_callN m__law_is_circuit o__law_is_circuit (hr.mono l__law_is_circuit) (by rfl) T.D__law_is_circuit.mgf T.D__law_is_circuit.fu.kp T.D__law_is_circuit.bi pass0 (by exact (sp_d (by exact (se_var (pv 3))) sp_nil)))))))) (by exact (sss_one (by exact (ss_ret (by exact (se_var (pv 3))))))) (by exact sss_nil)))))))) (sss_one (by exact (ss_ret (by exact (se_tup (by exact (sa_cons (by exact (se_ix (by exact (se_var (pv 1))) (by exact se_int))) (sa_cons (by exact (se_tup (by exact sa_nil))) sa_nil))))))))))
theorem S__law_no_filling : FnScope N__law_no_filling ["deck", "m", "is_beginning"] (defScope s__law_no_filling) := ⟨rfl, rfl, rfl, by decide +kernel, rfl, by decide +kernel, by decide +kernel⟩
theorem d__law_no_filling {P : Program} {wd : World} {K : PySem.W.Frag} {mg : Str → Option Value} {base : Heap} {a : Adr} (T : Tx K mg a) {k : Nat} {k__law_pick : Nat} {w__law_pick : WF} (m__law_pick : MonoF w__law_pick) (o__law_pick : FnOk P wd K mg base CX0 k__law_pick a.f__law_pick a.fd__law_pick ["deck", "some"] (spD K 2 w__law_pick)) (l__law_pick : k__law_pick ≤ k) {cdv : Value} {A : Around} {outer : List Env} {s : Shared} {H : Hp} {E : XK} {F : Fx} (hr : Room k (A.deeper (PyProof.Rows.envOfC "_law_no_filling" (defScope s__law_no_filling) s.heap.objs.size a.f__law_no_filling cdv))) :
    SSs (cxOf CX0 P wd K mg base N__law_no_filling "_law_no_filling" (defScope s__law_no_filling) a.f__law_no_filling cdv A outer s H E).nox F (defBody s__law_no_filling) (b__law_no_filling w__law_pick) := by
  have hN := S__law_no_filling.nd
  exact (by exact (sss_cons (by exact (ss_set (i := 3) hN rfl (by first | exact Or.inl rfl | exact Or.inr rfl) (by exact (SE.v (by exact (SEL.se (by exact (sl_lst (by exact (sa_cons (by exact se_non) (sa_cons (by exact se_int) (sa_cons (by exact (se_op op_addD op2_add (by exact (se_op op_mulQ op2_mulQ (by exact se_str) (by exact (se_var (pv 1))))) (by exact se_str))) (sa_cons (by exact se_str) (sa_cons (by exact (se_op op_mulQ op2_mulQ (by exact (SEL.se (by exact (sl_lst (by exact (sa_cons (by exact se_str) sa_nil)))))) (by exact (se_var (pv 1))))) (sa_cons (by exact (se_op op_mulQ op2_mulQ (by exact (se_tup (by exact (sa_cons (by exact se_str) sa_nil)))) (by exact (se_op op_addD op2_add (by exact (se_var (pv 1))) (by exact se_int))))) (sa_cons (by exact (se_op op_mulQ op2_mulQ (by exact se_str) (by exact (se_op op_addD op2_add (by exact (se_var (pv 1))) (by exact se_int))))) (sa_cons (by exact (se_op op_addD op2_add (by exact (se_op op_mulQ op2_mulQ (by exact se_str) (by exact (se_var (pv 1))))) (by exact se_str))) (sa_cons (by exact se_bl) (sa_cons (by exact (se_tup (by exact sa_nil))) (sa_cons (by exact (se_op op_mulQ op2_mulQ (by exact se_str) (by exact (se_op op_addD op2_add (by exact (se_var (pv 1))) (by exact se_int))))) sa_nil)))))))))))))))))))) (sss_cons (by exact (ss_if (by exact (SW.st (sw_and (by exact (st_cmp op_gt op2_gt (by exact (se_var (pv 1))) (by exact se_int) (nomark _))) (sw_and1 (by exact (st_not (by exact (st_val (by exact (se_var (pv 2))))))))))) (by exact (sss_one (by exact (ss_set (i := 3) hN rfl (by first | exact Or.inl rfl | exact Or.inr rfl) (by exact (SE.v (by exact (se_op op_addD op2_add (by exact (se_var (pv 3))) (by exact (SEL.se (by exact (sl_lst (by exact (sa_cons (by exact (se_op op_mulQ op2_mulQ (by exact se_str) (by exact (se_op op_sub op2_sub (by exact (se_var (pv 1))) (by exact se_int))))) (sa_cons (by exact se_str) sa_nil))))))))))))))) (by exact sss_nil))) (sss_one (by exact (ss_ret (by exact (se_callN m__law_pick o__law_pick (hr.mono l__law_pick) (by rfl) T.D__law_pick.mgf T.D__law_pick.fu.kp T.D__law_pick.bi pass0 (by exact (sp_k (pv 0) (sp_d (by exact (se_var (pv 3))) sp_nil)))))))))))
end K66
set_option maxRecDepth 100000
set_option maxHeartbeats 4000000
namespace K66
open PySem PySem.Spec L2 DL DR
def N__law_deck : List Str := ["script", "mixed", "cell"]
theorem S__law_deck : FnScope N__law_deck ["script", "mixed"] (defScope s__law_deck) := ⟨rfl, rfl, rfl, by decide +kernel, rfl, by decide +kernel, by decide +kernel⟩
theorem o_deck {P : Program} {wd : World} {K : PySem.W.Frag} {mg : Str → Option Value} {base : Heap} {a : Adr} (T : Tx K mg a) : FnOk P wd K mg base CX0 1 a.f__law_deck a.fd__law_deck ["script", "mixed"] (spDeck K) := by
  refine T.D__law_deck.fu.ok S__law_deck (fun vs H Q E h => ?_) (fun cdv A outer s H vs Q E hr h => ?_)
  · obtain ⟨_, _, _, rfl, _⟩ := h; rfl
  · obtain ⟨sc, ns, m0, rfl, hS, hl, k⟩ := h
    have hN := S__law_deck.nd
    refine ⟨_, pss_cons (ps_for PassesOwn.never rfl (pi_list (by exact (pe_slice sl_list (pv 0) po_none (po_some pe_int)))) (pg_name (i := 2) hN rfl (.inl rfl))
        (pss_one (ps_set (i := 1) hN rfl (.inl rfl) (by exact (pe_op op_mod (by exact (pe_callTy call_int1 (by rfl) T.b_int (by decide +kernel) (by exact (pa_cons (by exact (pe_op op_add (by exact (pe_op op_add (by exact (pe_op op_mul (pv 1) pe_int)) (by exact (pe_op op_mod (by exact (pe_callTy call_int1 (by rfl) T.b_int (by decide +kernel) (by exact (pa_cons (pv 2) pa_nil)))) pe_int)))) pe_int)) pa_nil)))) pe_int)))))
      (pss_one (ps_ret (by exact (pe_disp (pps_cons pe_str (by exact (pe_revL (by exact (pe_lc (own := [("cell", 2)]) rfl hN (pi_list (by exact (pe_slice sl_list (pv 0) po_none (po_some pe_int)))) (blkOk_by (N := N__law_deck) (sc := defScope s__law_deck) (own := [("cell", 2)]) (by decide +kernel)) (fun _ _ _ _ _ => by exact (pg_name (i := 2) hN rfl (.inl rfl))) (fun _ _ _ _ _ => pts_nil) (fun _ _ _ _ _ => by exact (pe_callTy call_int1 (by rfl) T.b_int (by decide +kernel) (by exact (pa_cons (pv 2) pa_nil)))))))) (pps_cons pe_str (pv 1) (pps_cons pe_str pe_int pps_nil))) rfl rfl (by simp) (by decide))))), ?_⟩
    refine ⟨_, rfl, 63, rfl, sc, _, rfl, hS, fun l0 nl0 => ?_⟩
    obtain ⟨ms, em, _⟩ := cutV_ints ns none (some 63)
    rw [em]
    have x0 := (Ext.refl H).new (o := .lst (ms.map V.int)) nl0 (fun _ e => by cases e)
    refine ⟨l0, rfl, ⟨_, .inl (.inl upd_same)⟩, for_list (K := K) (a := l0) (xs := ms.map V.int) (fun i σ H2 => ∃ (m : Int) (v : Option V), σ = [some (.ref sc), some (.int m), v] ∧ H2 = upd H l0 (.lst (ms.map V.int))) ⟨m0, none, rfl, rfl⟩ (fun i σ H2 _ ⟨_, _, _, e⟩ => by rw [e]; exact .inl (.inl upd_same)) ?_ ?_⟩
    · rintro i y σ H2 hi ⟨m, v, rfl, rfl⟩
      obtain ⟨z, rfl, _⟩ := ints_at hi
      have mul : CMul m 48271 := .inr ⟨by decide, by decide⟩
      have g1 : (0 : Int) < 2147483629 := by decide
      have g2 : (0 : Int) < 2147483587 := by decide
      refine ⟨_, rfl, _, _, rfl, rfl, mul, _, rfl, .inl ⟨z, rfl, _, _, rfl, rfl, g1, _, _, rfl, rfl, _, _, rfl, rfl, .inl ⟨_, rfl, _, _, rfl, rfl, g2, ?_⟩⟩⟩
      exact ⟨_, _, rfl, rfl⟩
    · rintro σ H2 ⟨m, v, rfl, rfl⟩
      intro p np
      have x1 := x0.new (o := .dK []) np (fun _ e => by cases e)
      have nl0p : l0 ≠ p := fun z => by rw [← z, upd_same] at np; cases np
      have h0p : H p = none := x0.free np
      have hS1 : SqL K (upd (upd H l0 (.lst (ms.map V.int))) p (.dK [])) sc (ns.map V.int) := sl_mono x1.old hS
      refine ⟨_, rfl, 63, rfl, sc, _, rfl, hS1, fun l1 nl1 => ?_⟩
      rw [em]
      have x2 := x1.new (o := .lst (ms.map V.int)) nl1 (fun _ e => by cases e)
      refine ⟨l1, rfl, ⟨_, .inl (.inl upd_same)⟩, fun D nD => ?_⟩
      have pl1 : p ≠ l1 := fun z => by rw [← z, upd_same] at nl1; cases nl1
      have l1D : l1 ≠ D := fun z => by rw [← z, upd_same] at nD; cases nD
      have pD : p ≠ D := fun z => by rw [← z, upd_ne pl1, upd_same] at nD; cases nD
      generalize hA : upd (upd (upd H l0 (.lst (ms.map V.int))) p (.dK [])) l1 (.lst (ms.map V.int)) = A2 at nD x2
      have a2l : A2 l1 = some (.lst (ms.map V.int)) := by rw [← hA, upd_same]
      have a2p : A2 p = some (.dK []) := by rw [← hA, upd_ne pl1, upd_same]
      have hD0 : H D = none := x2.free nD
      refine lc_list (K := K) (a := l1) (xs := ms.map V.int) (fun i Hc => Hc = upd A2 D (.lst ((ms.take i).map V.int))) rfl (fun i Hc _ e => by rw [e]; exact .inl (.inl (by rw [upd_ne l1D]; exact a2l))) ?_ ?_
      · rintro i x Hc hi rfl
        obtain ⟨z, rfl, hz⟩ := ints_at hi
        have yes : ∀ (σ : L2.St) (H : Hp) (R : Bool → Hp → Prop), R true H → tYes σ H R := fun _ _ _ r => r
        refine ⟨rfl, yes _ _ _ ((if_pos rfl).mpr ?_)⟩
        refine ⟨_, rfl, .inl ⟨z, rfl, ?_⟩⟩
        have hlt : i < ms.length := (List.getElem?_eq_some_iff.mp hz).1
        refine ⟨_, upd_same, ?_, ?_⟩
        · rw [List.length_map, List.length_take]
          exact Nat.lt_of_le_of_lt (Nat.min_le_left _ _) (Nat.lt_of_lt_of_le (show i < 1001 by omega) (by decide))
        · funext b
          by_cases hb : b = D
          · rw [hb, upd_same, upd_same, List.take_add_one, hz]; simp
          · rw [upd_ne hb, upd_ne hb, upd_ne hb]
      · rintro Hc rfl
        rw [List.length_map, List.take_length]
        have x3 := x2.put (p := D) (o := .lst (ms.map V.int)) hD0 (fun _ e => by cases e)
        refine ⟨D, _, rfl, .inl (.inl upd_same), fun r nr => ?_⟩
        have x4 := x3.new (o := .lst (ms.map V.int).reverse) nr (fun _ e => by cases e)
        have pr : p ≠ r := fun z => by rw [← z, upd_ne pD, a2p] at nr; cases nr
        have hr0 : H r = none := x3.free nr
        refine ⟨_, rfl, by rw [upd_ne pr, upd_ne pD]; exact a2p, deckV r m 0, rfl, by show 3 ≤ 15; decide, ?_⟩
        have x5 := x4.put (p := p) (o := .dK (mergeK [] (deckV r m 0))) h0p (fun _ e => by cases e)
        refine k p r m 0 ms.reverse _ ⟨x5.old, h0p, hr0, pr, ?_, ?_, by rw [List.length_reverse]; omega, x5.nt⟩
        · rw [upd_same]; rfl
        · rw [upd_ne pr.symm, upd_same, List.map_reverse]
end K66
set_option maxRecDepth 100000
set_option maxHeartbeats 8000000
namespace K66
open PySem PySem.Spec L2 DL DR
def N_law : List Str := ["script", "deck", "turn", "m", "circuit", "kept", "row", "go", "due", "many", "other", "bad", "odd", "told", "no", "size", "beginning", "at", "wide", "k", "it", "letter"]
def b_law (w__law_drawn_circuit : WF) (w__law_pick : WF) (w__law_row : WF) (w__law_draw : WF) (w__law_value : WF) (w__law_same : WF) (w__law_no_circuit : WF) (w__law_no_filling : WF) (w_circuit_after : WF) (w_circuit_value : WF) (w_many_true : WF) (w__law_fillings : WF) (CLS : List Cl) : WS := (wSeq (wFor (wR1 (wC (.int 3))) (gN 2) (wSeq (wAsg 3 (vD (wIf (wTst (w2 eqD (wCall w__law_draw (wLen 2 (pK 1 (pD (wC (.int 30)) pNil))) noEx) (wC (.int 0)))) (wC (.int 9)) (wCall w__law_pick (wLen 2 (pK 1 (pD (wAsL (wLst (wCons (wC (.int 0)) (wCons (wC (.int 1)) (wCons (wC (.int 2)) (wCons (wC (.int 3)) (wCons (wC (.int 4)) (wCons (wC (.int 5)) (wCons (wC (.int 6)) wNil))))))))) pNil))) noEx)))) (wSeq (wAsg 4 (vD (wCall w__law_drawn_circuit (wLen 3 (pK 1 (pD (wVar 3) (pD (wCall w__law_pick (wLen 2 (pK 1 (pD (wAsL (wLst (wCons (wC (.int 1)) (wCons (wC (.int 6)) (wCons (wC (.int 12)) (wCons (wC (.int 20)) wNil)))))) pNil))) noEx) pNil)))) noEx))) (wSeq (wPar 5 6 (vCons (vD (wCl reprD (wCons (wVar 4) wNil))) (vCons (vD (wCall w__law_row (wLen 1 (pD (wVar 4) pNil)) noEx)) vNil))) (wSeq (wFor (wR1 (wC (.int 6))) (gN 7) (wSeq (wAsg 15 (vD (wCall w__law_draw (wLen 2 (pK 1 (pD (w2 addD (wVar 3) (wC (.int 1))) pNil))) noEx))) (wSeq (wAsg 16 (vD (wMt "str" joinD (wC (.str "")) (wCons (wAsL (wLc [19] (wR1 (wVar 15)) (gN 19) wYes (wCall w__law_pick (wLen 2 (pK 1 (pD (wAsL (wLst (wCons (wC (.str "f")) (wCons (wC (.str "t")) wNil)))) pNil))) noEx))) wNil)))) (wSeq (wPar 17 18 (vCons (vD (wIndex (wCall w__law_fillings (wLen 1 (pD (wVar 15) pNil)) noEx) (wVar 16))) (vCons (vD (wC (.int 1))) vNil))) (wSeq (wFor (wR1 (w2 subD (wVar 3) (wVar 15))) (gN 19) (wAsg 18 (vD (w2 mulQD (wVar 18) (wC (.int 2)))))) (wSeq (wAsg 8 (vD (wCall w__law_value (wLen 2 (pD (wSl (w2 ixD (wVar 4) (wC (.int 0))) (wO (wVar 15)) wNoO) (pD (wSl (wVar 6) (wO (w2 mulQD (wVar 17) (wVar 18))) (wO (w2 addD (w2 mulQD (wVar 17) (wVar 18)) (wVar 18)))) pNil))) noEx))) (wSeq (wAsg 13 (vL (wLst (wCons (wCall w_circuit_after (wLen 2 (pD (wVar 4) (pD (wVar 16) pNil))) noEx) (wCons (wCall w_circuit_after (wLen 2 (wPerm g_1_0 (wLen 2 (pD (wVar 16) (pD (wVar 4) pNil))))) noEx) wNil))))) (wIfS (wBorT 13 (wNot (wTst (wCall w__law_same (wLen 2 (pD (wVar 13) (pD (wAsL (wLst (wCons (wVar 8) (wCons (wVar 8) wNil)))) pNil))) noEx)))) (wRet (wC (.bool false))) wNext)))))))) (wSeq (wPar 8 9 (vCons (vD (wCall w__law_value (wLen 2 (pD (w2 ixD (wVar 4) (wC (.int 0))) (pD (wVar 6) pNil))) noEx)) (vCons (vD (wCl lenD (wCons (wAsL (wLc [20] (wIL (wVar 6)) (gN 20) (wTst (wVar 20)) (wC (.int 1)))) wNil))) vNil))) (wSeq (wIfS (wNot (wTst (wCall w__law_same (wLen 2 (pD (wAsL (wLst (wCons (wCall w_circuit_value (wLen 1 (pD (wVar 4) pNil)) noEx) (wCons (wCall w_circuit_value (wLen 1 (wPerm g_0 (wLen 1 (pD (wVar 4) pNil)))) noEx) (wCons (wCall w_many_true (wLen 1 (pD (wVar 4) pNil)) noEx) (wCons (wCall w_many_true (wLen 1 (wPerm g_0 (wLen 1 (pD (wVar 4) pNil)))) noEx) wNil)))))) (pD (wAsL (wLst (wCons (wVar 8) (wCons (wVar 8) (wCons (wVar 9) (wCons (wVar 9) wNil)))))) pNil))) noEx))) (wRet (wC (.bool false))) wNext) (wSeq (wAsg 10 (vD (wTup (wCons (wMt "str" joinD (wC (.str "")) (wCons (wAsL (wLc [21] (wIS (w2 ixD (wVar 4) (wC (.int 0)))) (gN 21) wYes (wIf (wTst (w2 eqD (wVar 21) (wC (.str "e")))) (wC (.str "a")) (wC (.str "e"))))) wNil)) (wCons (w2 addD (w2 ixD (wVar 4) (wC (.int 1))) (wTup (wCons (wTup (wCons (wC (.str "not")) (wCons (w2 subD (wCl lenD (wCons (w2 ixD (wVar 4) (wC (.int 1))) wNil)) (wC (.int 1))) wNil))) wNil))) wNil))))) (wSeq (wIfS (wNot (wTst (wCall w__law_same (wLen 2 (pD (wAsL (wLst (wCons (wCall w_circuit_value (wLen 1 (pD (wVar 10) pNil)) noEx) (wCons (wCall w_many_true (wLen 1 (pD (wVar 10) pNil)) noEx) wNil)))) (pD (wAsL (wLst (wCons (wNotV (wVar 8)) (wCons (w2 subD (wCl lenD (wCons (wVar 6) wNil)) (wVar 9)) wNil)))) pNil))) noEx))) (wRet (wC (.bool false))) wNext) (wSeq (wAsgG (gT 2 (gC (gN 11) (gC (gN 12) gNs))) (wTup (wCons (wCall w__law_no_circuit (wLen 2 (pK 1 (pD (wVar 4) pNil))) noEx) (wCons (wCall w__law_no_filling (wLen 3 (pK 1 (pD (wVar 3) (pD (wC (.bool true)) pNil)))) noEx) wNil)))) (wSeq (wAsg 13 (vL (wLst (wCons (wHeard CLS ["told"] (fun Ex => (wCall w_circuit_after (wLen 2 (pD (wVar 11) (pD (wVar 12) pNil))) Ex))) wNil)))) (wSeq (wApp 13 (wHeard CLS ["told"] (fun Ex => (wCall w_circuit_after (wLen 2 (wPerm g_1_0 (wLen 2 (pD (wVar 12) (pD (wVar 4) pNil))))) Ex)))) (wSeq (wApp 13 (wHeard CLS ["told"] (fun Ex => (wCall w_circuit_value (wLen 1 (wPerm g_0 (wLen 1 (pD (wVar 11) pNil)))) Ex)))) (wSeq (wApp 13 (wHeard CLS ["told"] (fun Ex => (wCall w_many_true (wLen 1 (pD (wVar 11) pNil)) Ex)))) (wSeq (wAsg 14 (vD (wTup (wCons (wC (.str "circuit")) (wCons (wCl reprD (wCons (wVar 11) wNil)) (wCons (wC (.bool true)) wNil)))))) (wIfS (wBorT 13 (wOr (wTst (w2 neD (wVar 13) (wAsL (wLst (wCons (wVar 14) (wCons (wTup (wCons (wC (.str "filling")) (wCons (wCl reprD (wCons (wVar 12) wNil)) (wCons (wC (.bool true)) wNil)))) (wCons (wVar 14) (wCons (wVar 14) wNil)))))))) (wTst (w2 neD (wCl reprD (wCons (wVar 4) wNil)) (wVar 5))))) (wRet (wC (.bool false))) wNext)))))))))))))))) (wRet (wC (.bool true))))
end K66
set_option maxRecDepth 100000
set_option maxHeartbeats 4000000
namespace K66
open PySem PySem.Spec L2 DL DR
def clsK (C1 C2 : Addr) : List Cl := [⟨C1, [.str "circuit", .rep, .isi]⟩, ⟨C2, [.str "filling", .rep, .isi]⟩]
def r0 (C1 C2 : Addr) : WS := (wAsg 15 (vD (wCall cD (wLen 2 (pK 1 (pD (w2 addD (wVar 3) (wC (.int 1))) pNil))) noEx)))
def r1 (C1 C2 : Addr) : WS := (wAsg 16 (vD (wMt "str" joinD (wC (.str "")) (wCons (wAsL (wLc [19] (wR1 (wVar 15)) (gN 19) wYes (wCall cPick (wLen 2 (pK 1 (pD (wAsL (wLst (wCons (wC (.str "f")) (wCons (wC (.str "t")) wNil)))) pNil))) noEx))) wNil))))
def r2 (C1 C2 : Addr) : WS := (wPar 17 18 (vCons (vD (wIndex (wCall (wf f__law_fillings) (wLen 1 (pD (wVar 15) pNil)) noEx) (wVar 16))) (vCons (vD (wC (.int 1))) vNil)))
def r3 (C1 C2 : Addr) : WS := (wFor (wR1 (w2 subD (wVar 3) (wVar 15))) (gN 19) (wAsg 18 (vD (w2 mulQD (wVar 18) (wC (.int 2))))))
def r4 (C1 C2 : Addr) : WS := (wAsg 8 (vD (wCall (wf f__law_value) (wLen 2 (pD (wSl (w2 ixD (wVar 4) (wC (.int 0))) (wO (wVar 15)) wNoO) (pD (wSl (wVar 6) (wO (w2 mulQD (wVar 17) (wVar 18))) (wO (w2 addD (w2 mulQD (wVar 17) (wVar 18)) (wVar 18)))) pNil))) noEx)))
def r5 (C1 C2 : Addr) : WS := (wAsg 13 (vL (wLst (wCons (wCall (rf (x_after C1 C2)) (wLen 2 (pD (wVar 4) (pD (wVar 16) pNil))) noEx) (wCons (wCall (rf (x_after C1 C2)) (wLen 2 (wPerm g_1_0 (wLen 2 (pD (wVar 16) (pD (wVar 4) pNil))))) noEx) wNil)))))
def r6 (C1 C2 : Addr) : WS := (wIfS (wBorT 13 (wNot (wTst (wCall (wf f__law_same) (wLen 2 (pD (wVar 13) (pD (wAsL (wLst (wCons (wVar 8) (wCons (wVar 8) wNil)))) pNil))) noEx)))) (wRet (wC (.bool false))) wNext)
def rB (C1 C2 : Addr) : WS := (wSeq (r0 C1 C2) (wSeq (r1 C1 C2) (wSeq (r2 C1 C2) (wSeq (r3 C1 C2) (wSeq (r4 C1 C2) (wSeq (r5 C1 C2) (r6 C1 C2)))))))
def q0 (C1 C2 : Addr) : WS := (wAsg 3 (vD (wIf (wTst (w2 eqD (wCall cD (wLen 2 (pK 1 (pD (wC (.int 30)) pNil))) noEx) (wC (.int 0)))) (wC (.int 9)) (wCall cPick (wLen 2 (pK 1 (pD (wAsL (wLst (wCons (wC (.int 0)) (wCons (wC (.int 1)) (wCons (wC (.int 2)) (wCons (wC (.int 3)) (wCons (wC (.int 4)) (wCons (wC (.int 5)) (wCons (wC (.int 6)) wNil))))))))) pNil))) noEx))))
def q1 (C1 C2 : Addr) : WS := (wAsg 4 (vD (wCall cDrawn (wLen 3 (pK 1 (pD (wVar 3) (pD (wCall cPick (wLen 2 (pK 1 (pD (wAsL (wLst (wCons (wC (.int 1)) (wCons (wC (.int 6)) (wCons (wC (.int 12)) (wCons (wC (.int 20)) wNil)))))) pNil))) noEx) pNil)))) noEx)))
def q2 (C1 C2 : Addr) : WS := (wPar 5 6 (vCons (vD (wCl reprD (wCons (wVar 4) wNil))) (vCons (vD (wCall (wf f__law_row) (wLen 1 (pD (wVar 4) pNil)) noEx)) vNil)))
def q3 (C1 C2 : Addr) : WS := (wFor (wR1 (wC (.int 6))) (gN 7) (rB C1 C2))
def q4 (C1 C2 : Addr) : WS := (wPar 8 9 (vCons (vD (wCall (wf f__law_value) (wLen 2 (pD (w2 ixD (wVar 4) (wC (.int 0))) (pD (wVar 6) pNil))) noEx)) (vCons (vD (wCl lenD (wCons (wAsL (wLc [20] (wIL (wVar 6)) (gN 20) (wTst (wVar 20)) (wC (.int 1)))) wNil))) vNil)))
def q5 (C1 C2 : Addr) : WS := (wIfS (wNot (wTst (wCall (wf f__law_same) (wLen 2 (pD (wAsL (wLst (wCons (wCall (rf (x_value C1)) (wLen 1 (pD (wVar 4) pNil)) noEx) (wCons (wCall (rf (x_value C1)) (wLen 1 (wPerm g_0 (wLen 1 (pD (wVar 4) pNil)))) noEx) (wCons (wCall (rf (x_many C1)) (wLen 1 (pD (wVar 4) pNil)) noEx) (wCons (wCall (rf (x_many C1)) (wLen 1 (wPerm g_0 (wLen 1 (pD (wVar 4) pNil)))) noEx) wNil)))))) (pD (wAsL (wLst (wCons (wVar 8) (wCons (wVar 8) (wCons (wVar 9) (wCons (wVar 9) wNil)))))) pNil))) noEx))) (wRet (wC (.bool false))) wNext)
def q6 (C1 C2 : Addr) : WS := (wAsg 10 (vD (wTup (wCons (wMt "str" joinD (wC (.str "")) (wCons (wAsL (wLc [21] (wIS (w2 ixD (wVar 4) (wC (.int 0)))) (gN 21) wYes (wIf (wTst (w2 eqD (wVar 21) (wC (.str "e")))) (wC (.str "a")) (wC (.str "e"))))) wNil)) (wCons (w2 addD (w2 ixD (wVar 4) (wC (.int 1))) (wTup (wCons (wTup (wCons (wC (.str "not")) (wCons (w2 subD (wCl lenD (wCons (w2 ixD (wVar 4) (wC (.int 1))) wNil)) (wC (.int 1))) wNil))) wNil))) wNil)))))
def q7 (C1 C2 : Addr) : WS := (wIfS (wNot (wTst (wCall (wf f__law_same) (wLen 2 (pD (wAsL (wLst (wCons (wCall (rf (x_value C1)) (wLen 1 (pD (wVar 10) pNil)) noEx) (wCons (wCall (rf (x_many C1)) (wLen 1 (pD (wVar 10) pNil)) noEx) wNil)))) (pD (wAsL (wLst (wCons (wNotV (wVar 8)) (wCons (w2 subD (wCl lenD (wCons (wVar 6) wNil)) (wVar 9)) wNil)))) pNil))) noEx))) (wRet (wC (.bool false))) wNext)
def q8 (C1 C2 : Addr) : WS := (wAsgG (gT 2 (gC (gN 11) (gC (gN 12) gNs))) (wTup (wCons (wCall cNoC (wLen 2 (pK 1 (pD (wVar 4) pNil))) noEx) (wCons (wCall cNoF (wLen 3 (pK 1 (pD (wVar 3) (pD (wC (.bool true)) pNil)))) noEx) wNil))))
def q9 (C1 C2 : Addr) : WS := (wAsg 13 (vL (wLst (wCons (wHeard (clsK C1 C2) ["told"] (fun Ex => (wCall (rf (x_after C1 C2)) (wLen 2 (pD (wVar 11) (pD (wVar 12) pNil))) Ex))) wNil))))
def q10 (C1 C2 : Addr) : WS := (wApp 13 (wHeard (clsK C1 C2) ["told"] (fun Ex => (wCall (rf (x_after C1 C2)) (wLen 2 (wPerm g_1_0 (wLen 2 (pD (wVar 12) (pD (wVar 4) pNil))))) Ex))))
def q11 (C1 C2 : Addr) : WS := (wApp 13 (wHeard (clsK C1 C2) ["told"] (fun Ex => (wCall (rf (x_value C1)) (wLen 1 (wPerm g_0 (wLen 1 (pD (wVar 11) pNil)))) Ex))))
def q12 (C1 C2 : Addr) : WS := (wApp 13 (wHeard (clsK C1 C2) ["told"] (fun Ex => (wCall (rf (x_many C1)) (wLen 1 (pD (wVar 11) pNil)) Ex))))
def q13 (C1 C2 : Addr) : WS := (wAsg 14 (vD (wTup (wCons (wC (.str "circuit")) (wCons (wCl reprD (wCons (wVar 11) wNil)) (wCons (wC (.bool true)) wNil))))))
def q14 (C1 C2 : Addr) : WS := (wIfS (wBorT 13 (wOr (wTst (w2 neD (wVar 13) (wAsL (wLst (wCons (wVar 14) (wCons (wTup (wCons (wC (.str "filling")) (wCons (wCl reprD (wCons (wVar 12) wNil)) (wCons (wC (.bool true)) wNil)))) (wCons (wVar 14) (wCons (wVar 14) wNil)))))))) (wTst (w2 neD (wCl reprD (wCons (wVar 4) wNil)) (wVar 5))))) (wRet (wC (.bool false))) wNext)
def qB (C1 C2 : Addr) : WS := (wSeq (q0 C1 C2) (wSeq (q1 C1 C2) (wSeq (q2 C1 C2) (wSeq (q3 C1 C2) (wSeq (q4 C1 C2) (wSeq (q5 C1 C2) (wSeq (q6 C1 C2) (wSeq (q7 C1 C2) (wSeq (q8 C1 C2) (wSeq (q9 C1 C2) (wSeq (q10 C1 C2) (wSeq (q11 C1 C2) (wSeq (q12 C1 C2) (wSeq (q13 C1 C2) (q14 C1 C2)))))))))))))))
theorem b_eq (C1 C2 : Addr) : b_law cDrawn cPick (wf f__law_row) cD (wf f__law_value) (wf f__law_same) cNoC cNoF (rf (x_after C1 C2)) (rf (x_value C1)) (rf (x_many C1)) (wf f__law_fillings) (clsK C1 C2) = wSeq (wFor (wR1 (wC (.int 3))) (gN 2) (qB C1 C2)) (wRet (wC (.bool true))) := rfl
theorem wf1 {f : Fn} {a : PyData} {Q : PyData → Prop} {E : Addr → PyData → Prop} : wf f [.d a] Q E ↔ ∃ r, f [a] = some r ∧ Q r := by
  constructor
  · rintro ⟨ds, r, e, h, q⟩
    match ds, e with
    | [x], e => cases e; exact ⟨r, h, q⟩
  · rintro ⟨r, h, q⟩; exact ⟨[a], r, rfl, h, q⟩
theorem wf2 {f : Fn} {a b : PyData} {Q : PyData → Prop} {E : Addr → PyData → Prop} : wf f [.d a, .d b] Q E ↔ ∃ r, f [a, b] = some r ∧ Q r := by
  constructor
  · rintro ⟨ds, r, e, h, q⟩
    match ds, e with
    | [x, y], e => cases e; exact ⟨r, h, q⟩
  · rintro ⟨r, h, q⟩; exact ⟨[a, b], r, rfl, h, q⟩
theorem rf1 {f : XFn} {a : PyData} {Q : PyData → Prop} {E : Addr → PyData → Prop} : rf f [.d a] Q E ↔ ∃ o, f [a] = some o ∧ resOf Q E o := by
  constructor
  · rintro ⟨ds, r, e, h, q⟩
    match ds, e with
    | [x], e => cases e; exact ⟨r, h, q⟩
  · rintro ⟨r, h, q⟩; exact ⟨[a], r, rfl, h, q⟩
theorem rf2 {f : XFn} {a b : PyData} {Q : PyData → Prop} {E : Addr → PyData → Prop} : rf f [.d a, .d b] Q E ↔ ∃ o, f [a, b] = some o ∧ resOf Q E o := by
  constructor
  · rintro ⟨ds, r, e, h, q⟩
    match ds, e with
    | [x, y], e => cases e; exact ⟨r, h, q⟩
  · rintro ⟨r, h, q⟩; exact ⟨[a, b], r, rfl, h, q⟩
theorem res_l {Q : PyData → Prop} {E : Addr → PyData → Prop} {d : PyData} : resOf Q E (.inl d) = Q d := rfl
theorem res_r {Q : PyData → Prop} {E : Addr → PyData → Prop} {p : Addr × PyData} : resOf Q E (.inr p) = E p.1 p.2 := rfl
theorem sz7 : (7 ≤ sizeLine) = True := sz_n _ (by decide)
theorem sz4 : (4 ≤ sizeLine) = True := sz_n _ (by decide)
end K66
set_option maxRecDepth 100000
set_option maxHeartbeats 4000000
namespace K66
open PySem PySem.Spec L2 DL DR
variable {C1 C2 : Addr} {m : Nat} {l : List Bool} {gs : List PyData} {kept : Str} {s2 s3 s4 s5 s6 s7 s8 s9 s10 s11 s12 s13 s14 s15 s16 s17 s18 s19 s20 s21 : Sl} {G : En}
theorem k40 {n : Nat} (h : n ≤ 1000000) : (n : Int) ≤ 2 ^ 40 := Int.le_trans (show (n : Int) ≤ 1000000 by omega) (by decide)

theorem r0_is (hm : m ≤ 12) (h : ∀ n : Nat, n ≤ m → G.nx [.un, .dk, s2, .d (.int m), .d (circ l gs), .d (.str kept), .d (.list ((rowD gs l.length).map .bool)), s7, s8, s9, s10, s11, s12, s13, s14, .d (.int n), s16, s17, s18, s19, s20, s21]) : r0 C1 C2 [.un, .dk, s2, .d (.int m), .d (circ l gs), .d (.str kept), .d (.list ((rowD gs l.length).map .bool)), s7, s8, s9, s10, s11, s12, s13, s14, s15, s16, s17, s18, s19, s20, s21] G := by
  have k := k40 (n := m + 1) (by omega)
  simp only [r0, wSeq, wIfS, wRet, wAsg, vD, vL, wNext, wDrop, wCall, wLen, pK, pD, pNil, w2, w1, wVar, wC, wTst, wAnd, wOr, wNot, wIf, wAndV, wOrV, wNotV, wNil, wCons, wTup, wLst, wAsL, wIxO, wNoO, wO, wSl, wChain, wIsi, wCl, wListOf, wMt, wBor, wBorT, wFrz, wApp, wExt, wPar2, wIL, wIT, wIS, wR1, wAsgG, gN, gNs, gC, gT, frz, unAll, wNeg, negD, wRaise, List.set, List.getElem?_cons_zero, List.getElem?_cons_succ, exists_eq_left', exists_eq_left, Option.some.injEq, Sl.d.injEq, Sl.l.injEq, PyData.int.injEq, PyData.bool.injEq, PyData.str.injEq, PyData.tuple.injEq, PyData.list.injEq, and_true, true_and, List.length_cons, List.length_nil, Nat.reduceAdd, Option.map_some, Option.bind_some, if_true, if_false, Bool.false_eq_true, Bool.not_true, Bool.not_false, cD_is, addD]
  refine ⟨by omega, by omega, fun z h0 h1 => ?_⟩
  obtain ⟨n, rfl⟩ := Int.eq_ofNat_of_zero_le h0
  exact h n (by omega)
def fsL (l : List Bool) : List PyData := l.map fun b => .str (fs [b])
theorem strs_fsL : ∀ l : List Bool, strsOf (fsL l) = some (l.map fun b => fs [b])
  | [] => rfl
  | b :: l => by
    have := strs_fsL l
    simp only [fsL] at this
    simp [fsL, strsOf, this]
theorem join_fs (l : List Bool) : Txt.join "" (l.map fun b => fs [b]) = fs l := by
  have h1 : (l.map fun b => fs [b]) = (l.map fun b => [if b = true then 116 else 102]).map SX.S := by simp [SX.S, fs]
  have h2 : ("" : Str) = SX.S [] := by decide +kernel
  have h3 : ∀ l : List Bool, TL.joinL [] (l.map fun b => [if b = true then 116 else 102]) = l.map fun b => if b = true then 116 else 102 := by
    intro l
    induction l with
    | nil => rfl
    | cons b l ih =>
      cases l with
      | nil => rfl
      | cons c l => simp only [List.map_cons, TL.joinL] at ih ⊢; rw [ih]; rfl
  rw [h1, h2, SX.join_S, h3]
  rfl
theorem joinD_fs {l : List Bool} (h : l.length ≤ 64) : joinD (.str "") [.list (fsL l)] = some (.str (fs l)) := by
  have h1 : ((l.map fun b => fs [b]).map (·.length)).sum = l.length := by
    clear h
    induction l with
    | nil => rfl
    | cons b l ih => simp only [List.map_cons, List.sum_cons, ih, fs_len, List.length_cons, List.length_nil]; omega
  have h2 : ("" : Str).length = 0 := rfl
  simp only [joinD, strs_fsL, h1, h2, join_fs]
  rw [if_pos (by omega)]
def ftW : WE := wCall cPick (wLen 2 (pK 1 (pD (wAsL (wLst (wCons (wC (.str "f")) (wCons (wC (.str "t")) wNil)))) pNil))) noEx
theorem fs_t1 : Str.ofString "t" = fs [true] := by decide +kernel
theorem fs_f1 : Str.ofString "f" = fs [false] := by decide +kernel
theorem ftW_is {ρ : Env'} {Q : PyData → Prop} (h0 : ρ[1]? = some .dk) (h : ∀ b : Bool, Q (.str (fs [b]))) : ftW ρ Q := by
  refine ⟨h0, line64 (by decide), rfl, cPick_is (by simp) (by simp) fun x hx => ?_⟩
  simp at hx
  rcases hx with rfl | rfl
  · rw [fs_f1]; exact h false
  · rw [fs_t1]; exact h true
theorem r1_is {n : Nat} (hn : n ≤ 12) (h : ∀ fl : List Bool, fl.length = n → G.nx [.un, .dk, s2, .d (.int m), .d (circ l gs), .d (.str kept), .d (.list ((rowD gs l.length).map .bool)), s7, s8, s9, s10, s11, s12, s13, s14, .d (.int n), .d (.str (fs fl)), s17, s18, s19, s20, s21]) : r1 C1 C2 [.un, .dk, s2, .d (.int m), .d (circ l gs), .d (.str kept), .d (.list ((rowD gs l.length).map .bool)), s7, s8, s9, s10, s11, s12, s13, s14, .d (.int n), s16, s17, s18, s19, s20, s21] G := by
  have s1 : smallI (n : Int) := by unfold smallI; omega
  have hr : (rangeD 0 n).length = n := by simp [rangeD]
  refine ⟨rfl, .int n, rfl, n, rfl, s1, ?_⟩
  show lcD [19] (gN 19) wYes ftW _ _ (rangeD 0 n) []
  refine lcD_any (F := fun b => .str (fs [b])) _ [] (fun d _ => ⟨_, rfl, fun Q' hq => ftW_is rfl hq⟩) (by simp [hr]; omega) fun fl hl => ?_
  have hl2 : fl.length = n := by rw [hl, hr]
  exact ⟨_, joinD_fs (by omega), h fl hl2⟩
theorem mem_exts : ∀ {n : Nat} {fl : List Bool}, fl.length = n → fl ∈ exts n
  | 0, fl, h => by rw [List.length_eq_zero_iff.mp h]; simp [exts]
  | n + 1, fl, h => by
    have ne : fl ≠ [] := by intro e; rw [e] at h; simp at h
    have e := (List.dropLast_concat_getLast ne).symm
    have hm : fl.dropLast ∈ exts n := mem_exts (by simp [h])
    rw [e]
    show _ ∈ longer (exts n)
    unfold longer
    refine List.mem_flatMap.mpr ⟨_, hm, ?_⟩
    cases fl.getLast ne <;> simp
theorem fs_inj {a b : List Bool} (h : fs a = fs b) : a = b := by
  have := congrArg (fun x : Str => x.cps.toList) h
  simp only [fs_cps] at this
  refine (List.map_inj_right ?_).mp this
  intro x y; cases x <;> cases y <;> simp
theorem ixOf_mem {z : Str} : ∀ {xs : List Str}, z ∈ xs → ∃ j, ixOf z xs = some j
  | x :: xs, h => by
    unfold ixOf
    by_cases e : x = z
    · exact ⟨0, if_pos e⟩
    · rw [if_neg e]
      obtain ⟨j, hj⟩ := ixOf_mem ((List.mem_cons.mp h).resolve_left (Ne.symm e))
      exact ⟨j + 1, by rw [hj]; rfl⟩
theorem r2_is {n : Nat} {fl : List Bool} (hn : n ≤ 12) (hf : fl.length = n) (h : ∀ j : Nat, (exts n)[j]? = some fl → j < 4096 → G.nx [.un, .dk, s2, .d (.int m), .d (circ l gs), .d (.str kept), .d (.list ((rowD gs l.length).map .bool)), s7, s8, s9, s10, s11, s12, s13, s14, .d (.int n), .d (.str (fs fl)), .d (.int j), .d (.int 1), s19, s20, s21]) : r2 C1 C2 [.un, .dk, s2, .d (.int m), .d (circ l gs), .d (.str kept), .d (.list ((rowD gs l.length).map .bool)), s7, s8, s9, s10, s11, s12, s13, s14, .d (.int n), .d (.str (fs fl)), s17, s18, s19, s20, s21] G := by
  have e1 : fsD (exts n) = ((exts n).map fs).map PyData.str := by simp [fsD]
  obtain ⟨j, hj⟩ := ixOf_mem (z := fs fl) (xs := (exts n).map fs) (List.mem_map.mpr ⟨fl, mem_exts hf, rfl⟩)
  have h1 := (ixOf_spec hj).1
  rw [List.getElem?_map] at h1
  obtain ⟨x, h2, h3⟩ := Option.map_eq_some_iff.mp h1
  have h4 := fs_inj h3
  subst h4
  have h5 : j < 4096 := by
    have := (List.getElem?_eq_some_iff.mp h2).1
    rw [exts_len] at this
    exact Nat.lt_of_lt_of_le this (Nat.pow_le_pow_right (by decide) hn)
  have x1 := x__law_fillings n hn
  rw [e1] at x1
  simp only [r2, wSeq, wIfS, wRet, wAsg, vD, vL, wNext, wDrop, wCall, wLen, pK, pD, pNil, w2, w1, wVar, wC, wTst, wAnd, wOr, wNot, wIf, wAndV, wOrV, wNotV, wNil, wCons, wTup, wLst, wAsL, wIxO, wNoO, wO, wSl, wChain, wIsi, wCl, wListOf, wMt, wBor, wBorT, wFrz, wApp, wExt, wPar2, wIL, wIT, wIS, wR1, wAsgG, gN, gNs, gC, gT, frz, unAll, wNeg, negD, wRaise, List.set, List.getElem?_cons_zero, List.getElem?_cons_succ, exists_eq_left', exists_eq_left, Option.some.injEq, Sl.d.injEq, Sl.l.injEq, PyData.int.injEq, PyData.bool.injEq, PyData.str.injEq, PyData.tuple.injEq, PyData.list.injEq, and_true, true_and, List.length_cons, List.length_nil, Nat.reduceAdd, Option.map_some, Option.bind_some, if_true, if_false, Bool.false_eq_true, Bool.not_true, Bool.not_false, wIndex, wf1, x1]
  exact ⟨_, rfl, _, _, rfl, hj, h j h2 h5⟩
theorem r3_is {n j : Nat} {fl : List Bool} (hm : m ≤ 12) (hn : n ≤ m) (h : ∀ s19, G.nx [.un, .dk, s2, .d (.int m), .d (circ l gs), .d (.str kept), .d (.list ((rowD gs l.length).map .bool)), s7, s8, s9, s10, s11, s12, s13, s14, .d (.int n), .d (.str (fs fl)), .d (.int j), .d (.int ((2 ^ (m - n) : Nat) : Int)), s19, s20, s21]) : r3 C1 C2 [.un, .dk, s2, .d (.int m), .d (circ l gs), .d (.str kept), .d (.list ((rowD gs l.length).map .bool)), s7, s8, s9, s10, s11, s12, s13, s14, .d (.int n), .d (.str (fs fl)), .d (.int j), .d (.int 1), s19, s20, s21] G := by
  have e1 : subD (.int m) (.int n) = some (.int ((m - n : Nat) : Int)) := by
    show some (PyData.int ((m : Int) - n)) = _
    rw [Int.ofNat_sub hn]
  have s1 : smallI ((m - n : Nat) : Int) := by unfold smallI; omega
  simp only [r3, wFor, wR1, w2, wVar, List.getElem?_cons_zero, List.getElem?_cons_succ, exists_eq_left', Option.some.injEq, Sl.d.injEq, e1, PyData.int.injEq]
  refine ⟨s1, ?_⟩
  refine forD_rng (P := fun k ρ => ∃ s19, ρ = [.un, .dk, s2, .d (.int m), .d (circ l gs), .d (.str kept), .d (.list ((rowD gs l.length).map .bool)), s7, s8, s9, s10, s11, s12, s13, s14, .d (.int n), .d (.str (fs fl)), .d (.int j), .d (.int ((2 ^ k : Nat) : Int)), s19, s20, s21]) ⟨s19, rfl⟩ ?_ ?_
  · rintro k ρ hk ⟨s19, rfl⟩
    refine ⟨_, rfl, fun E' a b c d => ?_⟩
    have hm2 : mulQD (.int ((2 ^ k : Nat) : Int)) (.int 2) = some (.int ((2 ^ (k + 1) : Nat) : Int)) := by
      rw [mq (cm_r (by decide) (by decide)), Nat.pow_succ]
      rfl
    simp only [gN, wSeq, wIfS, wRet, wAsg, vD, vL, wNext, wDrop, wCall, wLen, pK, pD, pNil, w2, w1, wVar, wC, wTst, wAnd, wOr, wNot, wIf, wAndV, wOrV, wNotV, wNil, wCons, wTup, wLst, wAsL, wIxO, wNoO, wO, wSl, wChain, wIsi, wCl, wListOf, wMt, wBor, wBorT, wFrz, wApp, wExt, wPar2, wIL, wIT, wIS, wR1, wAsgG, gN, gNs, gC, gT, frz, unAll, wNeg, negD, wRaise, List.set, List.getElem?_cons_zero, List.getElem?_cons_succ, exists_eq_left', exists_eq_left, Option.some.injEq, Sl.d.injEq, Sl.l.injEq, PyData.int.injEq, PyData.bool.injEq, PyData.str.injEq, PyData.tuple.injEq, PyData.list.injEq, and_true, true_and, List.length_cons, List.length_nil, Nat.reduceAdd, Option.map_some, Option.bind_some, if_true, if_false, Bool.false_eq_true, Bool.not_true, Bool.not_false, hm2]
    exact b _ ⟨_, rfl⟩
  · rintro ρ ⟨s19, rfl⟩
    exact h s19
theorem es_drop (l : List Bool) (n : Nat) (hn : n ≤ l.length) (hl : l.length ≤ 64) : slD (.str (es l)) (some (n : Int)) none = some (.str (es (l.drop n))) := by
  have e : HT.sIx (es l).length 0 (some (n : Int)) = n := by
    show (if (n : Int) < 0 then ((n : Int) + ((es l).length : Nat)).toNat else min (n : Int).toNat (es l).length) = n
    rw [if_neg (by omega), es_len]; omega
  have h1 : (es l).length ≤ sizeLine := by rw [es_len]; exact line64 hl
  show (if (es l).length ≤ sizeLine then some (PyData.str (cutS (es l) (some (n : Int)) none)) else none) = _
  rw [if_pos h1]
  unfold cutS
  rw [e]
  show some (PyData.str ⟨(((es l).cps.toList.drop n).take ((es l).length - n)).toArray⟩) = _
  rw [List.take_of_length_le (by simp [Str.length])]
  rw [es_cps, ← List.map_drop]
  rfl
theorem cut_mid {α : Type} {xs : List α} {a b : Nat} (h : a + b ≤ xs.length) : cutL xs (some (a : Int)) (some ((a : Int) + b)) = (xs.drop a).take b := by
  have e1 : HT.sIx xs.length 0 (some (a : Int)) = a := by
    show (if (a : Int) < 0 then ((a : Int) + (xs.length : Nat)).toNat else min (a : Int).toNat xs.length) = a
    rw [if_neg (by omega)]; omega
  have e2 : HT.sIx xs.length xs.length (some ((a : Int) + b)) = a + b := by
    show (if ((a : Int) + b) < 0 then (((a : Int) + b) + (xs.length : Nat)).toNat else min ((a : Int) + b).toNat xs.length) = a + b
    rw [if_neg (by omega)]; omega
  unfold cutL
  rw [e1, e2, Nat.add_sub_cancel_left]
theorem r4_is {n j : Nat} {fl : List Bool} (hc : CircOk l gs) (hl : l.length = m) (hn : n ≤ m) (hf : fl.length = n) (hj : (exts n)[j]? = some fl) (hj2 : j < 4096) (h : G.nx [.un, .dk, s2, .d (.int m), .d (circ l gs), .d (.str kept), .d (.list ((rowD gs l.length).map .bool)), s7, .d (.bool (tv (gv gs) (l.drop n) fl)), s9, s10, s11, s12, s13, s14, .d (.int n), .d (.str (fs fl)), .d (.int j), .d (.int ((2 ^ (m - n) : Nat) : Int)), s19, s20, s21]) : r4 C1 C2 [.un, .dk, s2, .d (.int m), .d (circ l gs), .d (.str kept), .d (.list ((rowD gs l.length).map .bool)), s7, s8, s9, s10, s11, s12, s13, s14, .d (.int n), .d (.str (fs fl)), .d (.int j), .d (.int ((2 ^ (m - n) : Nat) : Int)), s19, s20, s21] G := by
  have hm : m ≤ 12 := by have := hc.l12; omega
  have hi : ixD (circ l gs) (.int 0) = some (.str (es l)) := ix0
  have hw : 2 ^ (m - n) ≤ 4096 := Nat.pow_le_pow_right (n := 2) (by decide) (show m - n ≤ 12 by omega)
  have h1 : cMul (j : Int) ((2 ^ (m - n) : Nat) : Int) = true := cm_l (Int.lt_of_lt_of_le (by decide) (show (0 : Int) ≤ j by omega)) (Int.lt_of_lt_of_le (show (j : Int) < 4096 by omega) (by decide))
  have h2 : mulQD (.int j) (.int ((2 ^ (m - n) : Nat) : Int)) = some (.int ((j * 2 ^ (m - n) : Nat) : Int)) := by rw [mq h1, Int.natCast_mul]
  have h3 : addD (.int ((j * 2 ^ (m - n) : Nat) : Int)) (.int ((2 ^ (m - n) : Nat) : Int)) = some (.int (((j * 2 ^ (m - n) : Nat) : Int) + ((2 ^ (m - n) : Nat) : Int))) := rfl
  have hle : j * 2 ^ (m - n) + 2 ^ (m - n) ≤ ((rowD gs l.length).map PyData.bool).length := by
    have a1 := (List.getElem?_eq_some_iff.mp hj).1
    rw [exts_len] at a1
    have a2 : (j + 1) * 2 ^ (m - n) ≤ 2 ^ n * 2 ^ (m - n) := Nat.mul_le_mul_right _ a1
    rw [← Nat.pow_add, show n + (m - n) = m by omega, Nat.succ_mul] at a2
    rw [List.length_map]
    unfold rowD
    rw [List.length_map, exts_len, hl]
    exact a2
  have h4 := cut_mid hle
  have e0 : l.length = n + (m - n) := by omega
  have h5 := row_slice (gs := gs) (a := n) (c := m - n) hj
  rw [← e0] at h5
  have h6 : (l.drop n).length = m - n := by rw [List.length_drop, hl]
  have h7 : cutL ((rowD gs l.length).map PyData.bool) (some ((j * 2 ^ (m - n) : Nat) : Int)) (some (((j * 2 ^ (m - n) : Nat) : Int) + ((2 ^ (m - n) : Nat) : Int))) = ((exts (l.drop n).length).map fun x => gv gs (fl ++ x)).map PyData.bool := by
    rw [h4, ← List.map_drop, ← List.map_take, h5, h6]
  have h8 := x__law_value (l := l.drop n) (row := (exts (l.drop n).length).map fun x => gv gs (fl ++ x)) (by rw [h6]; omega) (by rw [List.length_map, exts_len])
  rw [fold_tv] at h8
  have h9 : slD (.list ((rowD gs l.length).map PyData.bool)) (some ((j * 2 ^ (m - n) : Nat) : Int)) (some (((j * 2 ^ (m - n) : Nat) : Int) + ((2 ^ (m - n) : Nat) : Int))) = some (.list (((exts (l.drop n).length).map fun x => gv gs (fl ++ x)).map PyData.bool)) := by
    rw [← h7]; rfl
  have h10 := es_drop l n (by omega) (by omega)
  simp only [r4, wSeq, wIfS, wRet, wAsg, vD, vL, wNext, wDrop, wCall, wLen, pK, pD, pNil, w2, w1, wVar, wC, wTst, wAnd, wOr, wNot, wIf, wAndV, wOrV, wNotV, wNil, wCons, wTup, wLst, wAsL, wIxO, wNoO, wO, wSl, wChain, wIsi, wCl, wListOf, wMt, wBor, wBorT, wFrz, wApp, wExt, wPar2, wIL, wIT, wIS, wR1, wAsgG, gN, gNs, gC, gT, frz, unAll, wNeg, negD, wRaise, List.set, List.getElem?_cons_zero, List.getElem?_cons_succ, exists_eq_left', exists_eq_left, Option.some.injEq, Sl.d.injEq, Sl.l.injEq, PyData.int.injEq, PyData.bool.injEq, PyData.str.injEq, PyData.tuple.injEq, PyData.list.injEq, and_true, true_and, List.length_cons, List.length_nil, Nat.reduceAdd, Option.map_some, Option.bind_some, if_true, if_false, Bool.false_eq_true, Bool.not_true, Bool.not_false, hi, h2, h3, h9, h10, wf2, h8]
  exact h
theorem r5_is {n j : Nat} {fl : List Bool} (hc : CircOk l gs) (hl : l.length = m) (hn : n ≤ m) (hf : fl.length = n) (h : G.nx [.un, .dk, s2, .d (.int m), .d (circ l gs), .d (.str kept), .d (.list ((rowD gs l.length).map .bool)), s7, .d (.bool (tv (gv gs) (l.drop n) fl)), s9, s10, s11, s12, .l [.bool (tv (gv gs) (l.drop n) fl), .bool (tv (gv gs) (l.drop n) fl)], s14, .d (.int n), .d (.str (fs fl)), .d (.int j), .d (.int ((2 ^ (m - n) : Nat) : Int)), s19, s20, s21]) : r5 C1 C2 [.un, .dk, s2, .d (.int m), .d (circ l gs), .d (.str kept), .d (.list ((rowD gs l.length).map .bool)), s7, .d (.bool (tv (gv gs) (l.drop n) fl)), s9, s10, s11, s12, s13, s14, .d (.int n), .d (.str (fs fl)), .d (.int j), .d (.int ((2 ^ (m - n) : Nat) : Int)), s19, s20, s21] G := by
  have h1 := y_after C1 C2 hc (l.take n) (l.drop n) fl (List.take_append_drop n l).symm (by rw [List.length_take, hf]; omega)
  simp only [r5, wSeq, wIfS, wRet, wAsg, vD, vL, wNext, wDrop, wCall, wLen, pK, pD, pNil, w2, w1, wVar, wC, wTst, wAnd, wOr, wNot, wIf, wAndV, wOrV, wNotV, wNil, wCons, wTup, wLst, wAsL, wIxO, wNoO, wO, wSl, wChain, wIsi, wCl, wListOf, wMt, wBor, wBorT, wFrz, wApp, wExt, wPar2, wIL, wIT, wIS, wR1, wAsgG, gN, gNs, gC, gT, frz, unAll, wNeg, negD, wRaise, List.set, List.getElem?_cons_zero, List.getElem?_cons_succ, exists_eq_left', exists_eq_left, Option.some.injEq, Sl.d.injEq, Sl.l.injEq, PyData.int.injEq, PyData.bool.injEq, PyData.str.injEq, PyData.tuple.injEq, PyData.list.injEq, and_true, true_and, List.length_cons, List.length_nil, Nat.reduceAdd, Option.map_some, Option.bind_some, if_true, if_false, Bool.false_eq_true, Bool.not_true, Bool.not_false, wPerm, g_1_0, rf2, h1, res_l, sz2]
  exact h
theorem r6_is {n j : Nat} {fl : List Bool} (h : G.nx [.un, .dk, s2, .d (.int m), .d (circ l gs), .d (.str kept), .d (.list ((rowD gs l.length).map .bool)), s7, .d (.bool (tv (gv gs) (l.drop n) fl)), s9, s10, s11, s12, .l [.bool (tv (gv gs) (l.drop n) fl), .bool (tv (gv gs) (l.drop n) fl)], s14, .d (.int n), .d (.str (fs fl)), .d (.int j), .d (.int ((2 ^ (m - n) : Nat) : Int)), s19, s20, s21]) : r6 C1 C2 [.un, .dk, s2, .d (.int m), .d (circ l gs), .d (.str kept), .d (.list ((rowD gs l.length).map .bool)), s7, .d (.bool (tv (gv gs) (l.drop n) fl)), s9, s10, s11, s12, .l [.bool (tv (gv gs) (l.drop n) fl), .bool (tv (gv gs) (l.drop n) fl)], s14, .d (.int n), .d (.str (fs fl)), .d (.int j), .d (.int ((2 ^ (m - n) : Nat) : Int)), s19, s20, s21] G := by
  have h1 := x__law_same (xs := [.bool (tv (gv gs) (l.drop n) fl), .bool (tv (gv gs) (l.drop n) fl)]) rfl (by simp)
  simp only [r6, wSeq, wIfS, wRet, wAsg, vD, vL, wNext, wDrop, wCall, wLen, pK, pD, pNil, w2, w1, wVar, wC, wTst, wAnd, wOr, wNot, wIf, wAndV, wOrV, wNotV, wNil, wCons, wTup, wLst, wAsL, wIxO, wNoO, wO, wSl, wChain, wIsi, wCl, wListOf, wMt, wBor, wBorT, wFrz, wApp, wExt, wPar2, wIL, wIT, wIS, wR1, wAsgG, gN, gNs, gC, gT, frz, unAll, wNeg, negD, wRaise, List.set, List.getElem?_cons_zero, List.getElem?_cons_succ, exists_eq_left', exists_eq_left, Option.some.injEq, Sl.d.injEq, Sl.l.injEq, PyData.int.injEq, PyData.bool.injEq, PyData.str.injEq, PyData.tuple.injEq, PyData.list.injEq, and_true, true_and, List.length_cons, List.length_nil, Nat.reduceAdd, Option.map_some, Option.bind_some, if_true, if_false, Bool.false_eq_true, Bool.not_true, Bool.not_false, wf2, h1, sz2]
  exact h
theorem rB_is (hc : CircOk l gs) (hl : l.length = m) (h : ∀ s8 s13 s15 s16 s17 s18 s19, G.nx [.un, .dk, s2, .d (.int m), .d (circ l gs), .d (.str kept), .d (.list ((rowD gs l.length).map .bool)), s7, s8, s9, s10, s11, s12, s13, s14, s15, s16, s17, s18, s19, s20, s21]) : rB C1 C2 [.un, .dk, s2, .d (.int m), .d (circ l gs), .d (.str kept), .d (.list ((rowD gs l.length).map .bool)), s7, s8, s9, s10, s11, s12, s13, s14, s15, s16, s17, s18, s19, s20, s21] G := by
  have hm : m ≤ 12 := by have := hc.l12; omega
  refine r0_is (C1 := C1) (C2 := C2) hm fun n hn => ?_
  refine r1_is (C1 := C1) (C2 := C2) (by omega) fun fl hf => ?_
  refine r2_is (C1 := C1) (C2 := C2) (by omega) hf fun j hj hj2 => ?_
  refine r3_is (C1 := C1) (C2 := C2) hm hn fun s19 => ?_
  refine r4_is (C1 := C1) (C2 := C2) hc hl hn hf hj hj2 ?_
  refine r5_is (C1 := C1) (C2 := C2) hc hl hn hf ?_
  refine r6_is (C1 := C1) (C2 := C2) ?_
  exact h _ _ _ _ _ _ _
theorem q3_is (hc : CircOk l gs) (hl : l.length = m) (h : ∀ s7 s8 s13 s15 s16 s17 s18 s19, G.nx [.un, .dk, s2, .d (.int m), .d (circ l gs), .d (.str kept), .d (.list ((rowD gs l.length).map .bool)), s7, s8, s9, s10, s11, s12, s13, s14, s15, s16, s17, s18, s19, s20, s21]) : q3 C1 C2 [.un, .dk, s2, .d (.int m), .d (circ l gs), .d (.str kept), .d (.list ((rowD gs l.length).map .bool)), s7, s8, s9, s10, s11, s12, s13, s14, s15, s16, s17, s18, s19, s20, s21] G := by
  have s6 : smallI 6 := by unfold smallI; decide
  refine ⟨6, rfl, s6, ?_⟩
  refine forD_rng (P := fun k ρ => ∃ s7 s8 s13 s15 s16 s17 s18 s19, ρ = [.un, .dk, s2, .d (.int m), .d (circ l gs), .d (.str kept), .d (.list ((rowD gs l.length).map .bool)), s7, s8, s9, s10, s11, s12, s13, s14, s15, s16, s17, s18, s19, s20, s21]) ⟨s7, s8, s13, s15, s16, s17, s18, s19, rfl⟩ ?_ ?_
  · rintro k ρ hk ⟨s7, s8, s13, s15, s16, s17, s18, s19, rfl⟩
    refine ⟨_, rfl, fun E' a b c d => ?_⟩
    exact rB_is hc hl fun t8 t13 t15 t16 t17 t18 t19 => b _ ⟨_, _, _, _, _, _, _, _, rfl⟩
  · rintro ρ ⟨s7, s8, s13, s15, s16, s17, s18, s19, rfl⟩
    exact h _ _ _ _ _ _ _ _
end K66
set_option maxRecDepth 100000
set_option maxHeartbeats 4000000
set_option exponentiation.threshold 4000
namespace K66
open PySem PySem.Spec L2 DL DR
variable {C1 C2 : Addr} {m : Nat} {l : List Bool} {gs : List PyData} {bad odd : PyData} {s2 s3 s4 s5 s6 s7 s8 s9 s10 s11 s12 s13 s14 s15 s16 s17 s18 s19 s20 s21 : Sl} {G : En}

theorem q0_is (h : ∀ n : Nat, n ≤ 9 → G.nx [.un, .dk, s2, .d (.int n), s4, s5, s6, s7, s8, s9, s10, s11, s12, s13, s14, s15, s16, s17, s18, s19, s20, s21]) : q0 C1 C2 [.un, .dk, s2, s3, s4, s5, s6, s7, s8, s9, s10, s11, s12, s13, s14, s15, s16, s17, s18, s19, s20, s21] G := by
  simp only [q0, wSeq, wIfS, wRet, wAsg, vD, vL, wNext, wDrop, wCall, wLen, pK, pD, pNil, w2, w1, wVar, wC, wTst, wAnd, wOr, wNot, wIf, wAndV, wOrV, wNotV, wNil, wCons, wTup, wLst, wAsL, wIxO, wNoO, wO, wSl, wChain, wIsi, wCl, wListOf, wMt, wBor, wBorT, wFrz, wApp, wExt, wPar2, wIL, wIT, wIS, wR1, wAsgG, gN, gNs, gC, gT, frz, unAll, wNeg, negD, wRaise, List.set, List.getElem?_cons_zero, List.getElem?_cons_succ, exists_eq_left', exists_eq_left, Option.some.injEq, Sl.d.injEq, Sl.l.injEq, PyData.int.injEq, PyData.bool.injEq, PyData.str.injEq, PyData.tuple.injEq, PyData.list.injEq, and_true, true_and, List.length_cons, List.length_nil, Nat.reduceAdd, Option.map_some, Option.bind_some, if_true, if_false, Bool.false_eq_true, Bool.not_true, Bool.not_false, cD_is, eqi, cPick_iff, sz7]
  refine ⟨by decide, by decide, fun z h0 h1 => ?_⟩
  split
  · exact h 9 (by decide)
  · refine ⟨by simp, by decide, fun x hx => ?_⟩
    simp only [List.mem_cons, List.not_mem_nil, or_false] at hx
    rcases hx with rfl | rfl | rfl | rfl | rfl | rfl | rfl
    · exact h 0 (by decide)
    · exact h 1 (by decide)
    · exact h 2 (by decide)
    · exact h 3 (by decide)
    · exact h 4 (by decide)
    · exact h 5 (by decide)
    · exact h 6 (by decide)
theorem q1_is (hm : m ≤ 12) (h : ∀ (l : List Bool) (gs : List PyData), l.length = m → gs.length ≤ 60 → CircOk l gs → G.nx [.un, .dk, s2, .d (.int m), .d (circ l gs), s5, s6, s7, s8, s9, s10, s11, s12, s13, s14, s15, s16, s17, s18, s19, s20, s21]) : q1 C1 C2 [.un, .dk, s2, .d (.int m), s4, s5, s6, s7, s8, s9, s10, s11, s12, s13, s14, s15, s16, s17, s18, s19, s20, s21] G := by
  have fin : ∀ n : Nat, 1 ≤ n → n ≤ 60 → cDrawn [.dk, .d (.int m), .d (.int n)] (fun d => G.nx [.un, .dk, s2, .d (.int m), .d d, s5, s6, s7, s8, s9, s10, s11, s12, s13, s14, s15, s16, s17, s18, s19, s20, s21]) noEx := fun n h1 h2 => ⟨m, n, rfl, hm, h1, h2, fun l gs a b c => h l gs a (by omega) c⟩
  simp only [q1, wSeq, wIfS, wRet, wAsg, vD, vL, wNext, wDrop, wCall, wLen, pK, pD, pNil, w2, w1, wVar, wC, wTst, wAnd, wOr, wNot, wIf, wAndV, wOrV, wNotV, wNil, wCons, wTup, wLst, wAsL, wIxO, wNoO, wO, wSl, wChain, wIsi, wCl, wListOf, wMt, wBor, wBorT, wFrz, wApp, wExt, wPar2, wIL, wIT, wIS, wR1, wAsgG, gN, gNs, gC, gT, frz, unAll, wNeg, negD, wRaise, List.set, List.getElem?_cons_zero, List.getElem?_cons_succ, exists_eq_left', exists_eq_left, Option.some.injEq, Sl.d.injEq, Sl.l.injEq, PyData.int.injEq, PyData.bool.injEq, PyData.str.injEq, PyData.tuple.injEq, PyData.list.injEq, and_true, true_and, List.length_cons, List.length_nil, Nat.reduceAdd, Option.map_some, Option.bind_some, if_true, if_false, Bool.false_eq_true, Bool.not_true, Bool.not_false, cPick_iff, sz4]
  refine ⟨by simp, by decide, fun x hx => ?_⟩
  simp only [List.mem_cons, List.not_mem_nil, or_false] at hx
  rcases hx with rfl | rfl | rfl | rfl
  · exact fin 1 (by decide) (by decide)
  · exact fin 6 (by decide) (by decide)
  · exact fin 12 (by decide) (by decide)
  · exact fin 20 (by decide) (by decide)
theorem circ_shown (hc : CircOk l gs) : shownOk (circ l gs) = true := by
  obtain ⟨f1, f2, f3⟩ := circ_fit (show l.length ≤ 64 by have := hc.l12; omega) hc.g64 hc.ok
  have := hc.g64
  exact shownOk_of (by decide) f1 (by omega) (by omega)
theorem circ_repr (hc : CircOk l gs) : reprD [circ l gs] = some (.str (circ l gs).shown) := if_pos (circ_shown hc)
theorem q2_is (hc : CircOk l gs) (h : G.nx [.un, .dk, s2, .d (.int m), .d (circ l gs), .d (.str (circ l gs).shown), .d (.list ((rowD gs l.length).map .bool)), s7, s8, s9, s10, s11, s12, s13, s14, s15, s16, s17, s18, s19, s20, s21]) : q2 C1 C2 [.un, .dk, s2, .d (.int m), .d (circ l gs), s5, s6, s7, s8, s9, s10, s11, s12, s13, s14, s15, s16, s17, s18, s19, s20, s21] G := by
  have h1 := circ_repr hc
  have h2 : f__law_row [circ l gs] = some (.list ((rowD gs l.length).map .bool)) := x__law_row hc.l12 hc.ok hc.g64 hc.ne
  simp only [q2, wSeq, wIfS, wRet, wAsg, vD, vL, wNext, wDrop, wCall, wLen, pK, pD, pNil, w2, w1, wVar, wC, wTst, wAnd, wOr, wNot, wIf, wAndV, wOrV, wNotV, wNil, wCons, wTup, wLst, wAsL, wIxO, wNoO, wO, wSl, wChain, wIsi, wCl, wListOf, wMt, wBor, wBorT, wFrz, wApp, wExt, wPar2, wIL, wIT, wIS, wR1, wAsgG, gN, gNs, gC, gT, frz, unAll, wNeg, negD, wRaise, List.set, List.getElem?_cons_zero, List.getElem?_cons_succ, exists_eq_left', exists_eq_left, Option.some.injEq, Sl.d.injEq, Sl.l.injEq, PyData.int.injEq, PyData.bool.injEq, PyData.str.injEq, PyData.tuple.injEq, PyData.list.injEq, and_true, true_and, List.length_cons, List.length_nil, Nat.reduceAdd, Option.map_some, Option.bind_some, if_true, if_false, Bool.false_eq_true, Bool.not_true, Bool.not_false, h1, wf1, h2]
  exact h
def isT : PyData → Bool
  | .bool b => b
  | _ => false
theorem ones_len (row : List Bool) (h : row.length ≤ 4096) {ρ : Env'} (h6 : ρ[6]? = some (.d (.list (row.map .bool)))) (h20 : 20 < ρ.length) : (eAsL (eLc [20] (eIL (eVar 6)) (gN 20) (eTst (eVar 20)) (eC (.int 1)))) ρ = some (.list (((row.map PyData.bool).filter isT).map fun _ => .int 1)) := by
  have h1 : eIL (eVar 6) ρ = some (row.map .bool) := by simp [eIL, eVar, h6, gtL]
  have h2 : lcF (fun d => gN 20 d (unAll [20] ρ)) (eTst (eVar 20)) (eC (.int 1)) (row.map PyData.bool) = some (((row.map PyData.bool).filter isT).map fun _ => .int 1) := by
    refine lcF_filt fun d hd => ?_
    obtain ⟨b, _, rfl⟩ := List.mem_map.mp hd
    refine ⟨_, rfl, ?_, fun _ => rfl⟩
    have e : ((unAll [20] ρ).set 20 (.d (.bool b)))[20]? = some (.d (.bool b)) := by
      rw [List.getElem?_set_self]; simpa [unAll] using h20
    simp [eTst, eVar, e, gtB, isT]
  have h3 : (((row.map PyData.bool).filter isT).map fun _ => PyData.int 1).length ≤ sizeLine := by
    rw [List.length_map]
    refine Nat.le_trans (List.length_filter_le _ _) ?_
    rw [List.length_map]
    exact Nat.le_trans h (by decide)
  simp only [eAsL, eLc, h1, Option.bind_some, h2, if_pos h3, Option.map_some]
theorem filt_len : ∀ row : List Bool, ((row.map PyData.bool).filter isT).length = (row.filter id).length
  | [] => rfl
  | false :: row => filt_len row
  | true :: row => by
    have := filt_len row
    show ((row.map PyData.bool).filter isT).length + 1 = (row.filter id).length + 1
    omega
theorem exts_nil (g : List Bool → Bool) (n : Nat) : ((exts n).map fun x => g ([] ++ x)) = (exts n).map g := rfl
theorem row_len (gs : List PyData) {n : Nat} (h : n ≤ 12) : (rowD gs n).length ≤ 4096 := by
  unfold rowD
  rw [List.length_map, exts_len]
  exact Nat.pow_le_pow_right (n := 2) (by decide) h
theorem q4_is (hc : CircOk l gs) (h : G.nx [.un, .dk, s2, .d (.int m), .d (circ l gs), .d (.str (circ l gs).shown), .d (.list ((rowD gs l.length).map .bool)), s7, .d (.bool (tv (gv gs) l [])), .d (.int (cnt (rowD gs l.length))), s10, s11, s12, s13, s14, s15, s16, s17, s18, s19, s20, s21]) : q4 C1 C2 [.un, .dk, s2, .d (.int m), .d (circ l gs), .d (.str (circ l gs).shown), .d (.list ((rowD gs l.length).map .bool)), s7, s8, s9, s10, s11, s12, s13, s14, s15, s16, s17, s18, s19, s20, s21] G := by
  have hi : ixD (circ l gs) (.int 0) = some (.str (es l)) := ix0
  have h8 := x__law_value (l := l) (row := (exts l.length).map fun x => gv gs ([] ++ x)) hc.l12 (by rw [List.length_map, exts_len])
  rw [fold_tv, exts_nil] at h8
  have h9 : f__law_value [.str (es l), .list ((rowD gs l.length).map .bool)] = some (.bool (tv (gv gs) l [])) := h8
  have k := (sAsL (sLc (sIL (sVar (i := 6))) (sTst (sVar (i := 20))) (sC (d := .int 1))) : Snd (wAsL (wLc [20] (wIL (wVar 6)) (gN 20) (wTst (wVar 20)) (wC (.int 1)))) _) [.un, .dk, s2, .d (.int m), .d (circ l gs), .d (.str (circ l gs).shown), .d (.list ((rowD gs l.length).map .bool)), s7, s8, s9, s10, s11, s12, s13, s14, s15, s16, s17, s18, s19, s20, s21] _ (ones_len (rowD gs l.length) (row_len gs hc.l12) rfl (by simp))
  have e1 : lenD [.list (((((rowD gs l.length).map PyData.bool).filter isT).map fun _ => PyData.int 1))] = some (.int (cnt (rowD gs l.length))) := by
    simp only [lenD, List.length_map, filt_len]; rfl
  unfold q4
  rw [wPar2]
  simp only [vD, wCall, wLen, pD, pNil, w2, wVar, wC, wCl, wCons, wNil, List.getElem?_cons_zero, List.getElem?_cons_succ, exists_eq_left', Option.some.injEq, Sl.d.injEq, hi, List.length_cons, List.length_nil, Nat.reduceAdd, true_and, wf2, h9]
  refine k _ ?_
  exact ⟨_, e1, h⟩
theorem q5_is (hc : CircOk l gs) (h : G.nx [.un, .dk, s2, .d (.int m), .d (circ l gs), .d (.str (circ l gs).shown), .d (.list ((rowD gs l.length).map .bool)), s7, .d (.bool (tv (gv gs) l [])), .d (.int (cnt (rowD gs l.length))), s10, s11, s12, s13, s14, s15, s16, s17, s18, s19, s20, s21]) : q5 C1 C2 [.un, .dk, s2, .d (.int m), .d (circ l gs), .d (.str (circ l gs).shown), .d (.list ((rowD gs l.length).map .bool)), s7, .d (.bool (tv (gv gs) l [])), .d (.int (cnt (rowD gs l.length))), s10, s11, s12, s13, s14, s15, s16, s17, s18, s19, s20, s21] G := by
  have h1 := y_value C1 hc
  have h2 := y_many C1 hc
  have h3 := x__law_same (xs := [.bool (tv (gv gs) l []), .bool (tv (gv gs) l []), .int (cnt (rowD gs l.length)), .int (cnt (rowD gs l.length))]) rfl (by simp)
  simp only [q5, wSeq, wIfS, wRet, wAsg, vD, vL, wNext, wDrop, wCall, wLen, pK, pD, pNil, w2, w1, wVar, wC, wTst, wAnd, wOr, wNot, wIf, wAndV, wOrV, wNotV, wNil, wCons, wTup, wLst, wAsL, wIxO, wNoO, wO, wSl, wChain, wIsi, wCl, wListOf, wMt, wBor, wBorT, wFrz, wApp, wExt, wPar2, wIL, wIT, wIS, wR1, wAsgG, gN, gNs, gC, gT, frz, unAll, wNeg, negD, wRaise, List.set, List.getElem?_cons_zero, List.getElem?_cons_succ, exists_eq_left', exists_eq_left, Option.some.injEq, Sl.d.injEq, Sl.l.injEq, PyData.int.injEq, PyData.bool.injEq, PyData.str.injEq, PyData.tuple.injEq, PyData.list.injEq, and_true, true_and, List.length_cons, List.length_nil, Nat.reduceAdd, Option.map_some, Option.bind_some, if_true, if_false, Bool.false_eq_true, Bool.not_true, Bool.not_false, wPerm, g_0, rf1, h1, h2, res_l, sz4, wf2, h3]
  exact h
theorem turn_ok (hc : CircOk l gs) (hg : gs.length ≤ 60) : CircOk (l.map (!·)) (turnG gs) := by
  have hl := hc.l12
  have hg2 := gates_turn (m := (l.length : Nat)) hc.ne hc.ok
  have h1 : (turnG gs).length = gs.length + 1 := by simp [turnG]
  refine ⟨by simp; omega, by omega, by intro e; rw [e] at h1; simp at h1, by rw [List.length_map]; exact hg2, circ_sm (by simp; omega) (by omega) (by rw [List.length_map]; exact hg2)⟩
def flipW : WA := wLc [21] (wIS (w2 ixD (wVar 4) (wC (.int 0)))) (gN 21) wYes (wIf (wTst (w2 eqD (wVar 21) (wC (.str "e")))) (wC (.str "a")) (wC (.str "e")))
theorem flip_is {ρ : Env'} {Q : List PyData → Prop} (h4 : ρ[4]? = some (.d (circ l gs))) (h21 : 21 < ρ.length) (hl : l.length ≤ 12) (h : Q (esD (l.map (!·)))) : flipW ρ Q := by
  have hi : ixD (circ l gs) (.int 0) = some (.str (es l)) := ix0
  have k : Snd flipW (eLc [21] (eIS (e2 ixD (eVar 4) (eC (.int 0)))) (gN 21) eYes (eIf (eTst (e2 eqD (eVar 21) (eC (.str "e")))) (eC (.str "a")) (eC (.str "e")))) := sLc (sIS (s2 sVar sC)) sYes (sIf (sTst (s2 sVar sC)) sC sC)
  refine k ρ _ ?_ Q h
  have h1 : eIS (e2 ixD (eVar 4) (eC (.int 0))) ρ = some (l.map fun b => .str (es [b])) := by
    simp [eIS, e2, eVar, eC, h4, hi, gtS, signs_es]
  have hb : ∀ (b : Bool) (ρ' : Env'), ρ'[21]? = some (.d (.str (es [b]))) → (eIf (eTst (e2 eqD (eVar 21) (eC (.str "e")))) (eC (.str "a")) (eC (.str "e"))) ρ' = some (.str (es [!b])) := by
    intro b ρ' hh
    simp only [eIf, eTst, e2, eVar, eC, hh, Option.bind_some, es_e, gtB]
    cases b
    · rw [if_neg Bool.false_ne_true, es_e1]; rfl
    · rw [if_pos rfl, es_a1]; rfl
  have h2 : ∀ l : List Bool, lcF (fun d => gN 21 d (unAll [21] ρ)) eYes (eIf (eTst (e2 eqD (eVar 21) (eC (.str "e")))) (eC (.str "a")) (eC (.str "e"))) (l.map fun b => PyData.str (es [b])) = some (esD (l.map (!·))) := by
    intro l
    induction l with
    | nil => rfl
    | cons b l ih =>
      have e : ((unAll [21] ρ).set 21 (.d (.str (es [b]))))[21]? = some (.d (.str (es [b]))) := by
        rw [List.getElem?_set_self]; simpa [unAll] using h21
      have e0 : gN 21 (.str (es [b])) (unAll [21] ρ) = some ((unAll [21] ρ).set 21 (.d (.str (es [b])))) := rfl
      rw [List.map_cons, lcF, e0]
      simp only [Option.bind_some, eYes, if_true, hb b _ e, ih, Option.map_some]
      simp [esD]
  have h3 : (esD (l.map (!·))).length ≤ sizeLine := line64 (by simp [esD]; omega)
  simp only [eLc, h1, Option.bind_some, h2, if_pos h3]
theorem q6_is (hc : CircOk l gs) (hg : gs.length ≤ 60) (h : G.nx [.un, .dk, s2, .d (.int m), .d (circ l gs), .d (.str (circ l gs).shown), .d (.list ((rowD gs l.length).map .bool)), s7, .d (.bool (tv (gv gs) l [])), .d (.int (cnt (rowD gs l.length))), .d (circ (l.map (!·)) (turnG gs)), s11, s12, s13, s14, s15, s16, s17, s18, s19, s20, s21]) : q6 C1 C2 [.un, .dk, s2, .d (.int m), .d (circ l gs), .d (.str (circ l gs).shown), .d (.list ((rowD gs l.length).map .bool)), s7, .d (.bool (tv (gv gs) l [])), .d (.int (cnt (rowD gs l.length))), s10, s11, s12, s13, s14, s15, s16, s17, s18, s19, s20, s21] G := by
  have hl := hc.l12
  have h1 : ixD (circ l gs) (.int 1) = some (.tuple gs) := ix1
  have h2 : lenD [.tuple gs] = some (.int gs.length) := rfl
  have h3 : subD (.int gs.length) (.int 1) = some (.int ((gs.length : Int) - 1)) := rfl
  have h4 : addD (.tuple gs) (.tuple [.tuple [.str "not", .int ((gs.length : Int) - 1)]]) = some (.tuple (turnG gs)) := if_pos (line64 (by simp; omega))
  refine ⟨rfl, ?_⟩
  show flipW _ _
  refine flip_is rfl (by simp) hl ⟨_, joinD_es (by simp; omega), ?_⟩
  simp only [wSeq, wIfS, wRet, wAsg, vD, vL, wNext, wDrop, wCall, wLen, pK, pD, pNil, w2, w1, wVar, wC, wTst, wAnd, wOr, wNot, wIf, wAndV, wOrV, wNotV, wNil, wCons, wTup, wLst, wAsL, wIxO, wNoO, wO, wSl, wChain, wIsi, wCl, wListOf, wMt, wBor, wBorT, wFrz, wApp, wExt, wPar2, wIL, wIT, wIS, wR1, wAsgG, gN, gNs, gC, gT, frz, unAll, wNeg, negD, wRaise, List.set, List.getElem?_cons_zero, List.getElem?_cons_succ, exists_eq_left', exists_eq_left, Option.some.injEq, Sl.d.injEq, Sl.l.injEq, PyData.int.injEq, PyData.bool.injEq, PyData.str.injEq, PyData.tuple.injEq, PyData.list.injEq, and_true, true_and, List.length_cons, List.length_nil, Nat.reduceAdd, Option.map_some, Option.bind_some, if_true, if_false, Bool.false_eq_true, Bool.not_true, Bool.not_false, h1, h2, h3, h4, sz1, sz2]
  exact h
theorem q7_is (hc : CircOk l gs) (hg : gs.length ≤ 60) (h : G.nx [.un, .dk, s2, .d (.int m), .d (circ l gs), .d (.str (circ l gs).shown), .d (.list ((rowD gs l.length).map .bool)), s7, .d (.bool (tv (gv gs) l [])), .d (.int (cnt (rowD gs l.length))), .d (circ (l.map (!·)) (turnG gs)), s11, s12, s13, s14, s15, s16, s17, s18, s19, s20, s21]) : q7 C1 C2 [.un, .dk, s2, .d (.int m), .d (circ l gs), .d (.str (circ l gs).shown), .d (.list ((rowD gs l.length).map .bool)), s7, .d (.bool (tv (gv gs) l [])), .d (.int (cnt (rowD gs l.length))), .d (circ (l.map (!·)) (turnG gs)), s11, s12, s13, s14, s15, s16, s17, s18, s19, s20, s21] G := by
  have hl := hc.l12
  have ht := turn_ok hc hg
  have h1 := y_value C1 ht
  have h2 := y_many C1 ht
  rw [tv_turn hc.ne] at h1
  have e1 : cnt (rowD (turnG gs) (l.map (!·)).length) = ((rowD gs l.length).map PyData.bool).length - cnt (rowD gs l.length) := by
    rw [List.length_map, row_turn hc.ne, List.length_map]
    unfold cnt
    rw [filter_turn]
    have := List.length_filter_le id (rowD gs l.length)
    omega
  rw [e1] at h2
  have h3 := x__law_same (xs := [.bool (!tv (gv gs) l []), .int (((rowD gs l.length).map PyData.bool).length - cnt (rowD gs l.length))]) rfl (by simp)
  have h4 : lenD [.list ((rowD gs l.length).map .bool)] = some (.int ((rowD gs l.length).map PyData.bool).length) := rfl
  have h5 : subD (.int ((rowD gs l.length).map PyData.bool).length) (.int (cnt (rowD gs l.length))) = some (.int (((rowD gs l.length).map PyData.bool).length - cnt (rowD gs l.length))) := rfl
  simp only [q7, wSeq, wIfS, wRet, wAsg, vD, vL, wNext, wDrop, wCall, wLen, pK, pD, pNil, w2, w1, wVar, wC, wTst, wAnd, wOr, wNot, wIf, wAndV, wOrV, wNotV, wNil, wCons, wTup, wLst, wAsL, wIxO, wNoO, wO, wSl, wChain, wIsi, wCl, wListOf, wMt, wBor, wBorT, wFrz, wApp, wExt, wPar2, wIL, wIT, wIS, wR1, wAsgG, gN, gNs, gC, gT, frz, unAll, wNeg, negD, wRaise, List.set, List.getElem?_cons_zero, List.getElem?_cons_succ, exists_eq_left', exists_eq_left, Option.some.injEq, Sl.d.injEq, Sl.l.injEq, PyData.int.injEq, PyData.bool.injEq, PyData.str.injEq, PyData.tuple.injEq, PyData.list.injEq, and_true, true_and, List.length_cons, List.length_nil, Nat.reduceAdd, Option.map_some, Option.bind_some, if_true, if_false, Bool.false_eq_true, Bool.not_true, Bool.not_false, rf1, h1, h2, res_l, sz2, wf2, h4, h5, h3]
  exact h
theorem q8_is (hc : CircOk l gs) (hg : gs.length ≤ 60) (hm : l.length = m) (h : ∀ bad odd : PyData, NoC bad → NoF l.length odd → G.nx [.un, .dk, s2, .d (.int m), .d (circ l gs), .d (.str (circ l gs).shown), .d (.list ((rowD gs l.length).map .bool)), s7, .d (.bool (tv (gv gs) l [])), .d (.int (cnt (rowD gs l.length))), .d (circ (l.map (!·)) (turnG gs)), .d bad, .d odd, s13, s14, s15, s16, s17, s18, s19, s20, s21]) : q8 C1 C2 [.un, .dk, s2, .d (.int m), .d (circ l gs), .d (.str (circ l gs).shown), .d (.list ((rowD gs l.length).map .bool)), s7, .d (.bool (tv (gv gs) l [])), .d (.int (cnt (rowD gs l.length))), .d (circ (l.map (!·)) (turnG gs)), s11, s12, s13, s14, s15, s16, s17, s18, s19, s20, s21] G := by
  have hl := hc.l12
  simp only [q8, wAsgG, wTup, wCons, wNil, wCall, wLen, pK, pD, pNil, wVar, wC, List.getElem?_cons_zero, List.getElem?_cons_succ, exists_eq_left', Option.some.injEq, Sl.d.injEq, true_and, List.length_cons, List.length_nil, Nat.reduceAdd, sz2]
  refine ⟨l, gs, rfl, hc, hg, fun bad hb => ⟨m, rfl, by omega, fun odd ho => ?_⟩⟩
  rw [← hm] at ho
  exact ⟨_, rfl, h bad odd hb ho⟩
theorem NoC.shown (h : NoC bad) : shownOk bad = true := shownOk_of (B := 200) (by decide) h.fit (by have := h.wt; omega) (by have := h.dp; omega)
theorem NoF.shown {n : Nat} (h : NoF n odd) : shownOk odd = true := shownOk_of (B := 200) (by decide) h.fit (by have := h.wt; omega) (by have := h.dp; omega)
theorem heard1 {r : PyData} {Q : PyData → Prop} (hs : shownOk r = true) (q : Q (.tuple [.str "circuit", .str r.shown, .bool true])) : ∃ cl, rowOf (clsK C1 C2) C1 = some cl ∧ (∀ it ∈ cl.its, it.need r) ∧ Q (.tuple (cl.its.map (·.dat r))) := by
  refine ⟨⟨C1, [.str "circuit", .rep, .isi]⟩, by simp [clsK, rowOf], fun it hi => ?_, q⟩
  simp only [List.mem_cons, List.not_mem_nil, or_false] at hi
  rcases hi with rfl | rfl | rfl
  · trivial
  · exact hs
  · trivial
theorem heard2 {r : PyData} {Q : PyData → Prop} (ne : C1 ≠ C2) (hs : shownOk r = true) (q : Q (.tuple [.str "filling", .str r.shown, .bool true])) : ∃ cl, rowOf (clsK C1 C2) C2 = some cl ∧ (∀ it ∈ cl.its, it.need r) ∧ Q (.tuple (cl.its.map (·.dat r))) := by
  refine ⟨⟨C2, [.str "filling", .rep, .isi]⟩, by simp [clsK, rowOf, ne], fun it hi => ?_, q⟩
  simp only [List.mem_cons, List.not_mem_nil, or_false] at hi
  rcases hi with rfl | rfl | rfl
  · trivial
  · exact hs
  · trivial
theorem q9_is (hb : NoC bad) (h : G.nx [.un, .dk, s2, .d (.int m), .d (circ l gs), .d (.str (circ l gs).shown), .d (.list ((rowD gs l.length).map .bool)), s7, .d (.bool (tv (gv gs) l [])), .d (.int (cnt (rowD gs l.length))), .d (circ (l.map (!·)) (turnG gs)), .d bad, .d odd, .l [.tuple [.str "circuit", .str bad.shown, .bool true]], s14, s15, s16, s17, s18, s19, s20, s21]) : q9 C1 C2 [.un, .dk, s2, .d (.int m), .d (circ l gs), .d (.str (circ l gs).shown), .d (.list ((rowD gs l.length).map .bool)), s7, .d (.bool (tv (gv gs) l [])), .d (.int (cnt (rowD gs l.length))), .d (circ (l.map (!·)) (turnG gs)), .d bad, .d odd, s13, s14, s15, s16, s17, s18, s19, s20, s21] G := by
  have h1 := y_after_bad C1 C2 bad odd hb.sm hb.no
  simp only [q9, wSeq, wIfS, wRet, wAsg, vD, vL, wNext, wDrop, wCall, wLen, pK, pD, pNil, w2, w1, wVar, wC, wTst, wAnd, wOr, wNot, wIf, wAndV, wOrV, wNotV, wNil, wCons, wTup, wLst, wAsL, wIxO, wNoO, wO, wSl, wChain, wIsi, wCl, wListOf, wMt, wBor, wBorT, wFrz, wApp, wExt, wPar2, wIL, wIT, wIS, wR1, wAsgG, gN, gNs, gC, gT, frz, unAll, wNeg, negD, wRaise, List.set, List.getElem?_cons_zero, List.getElem?_cons_succ, exists_eq_left', exists_eq_left, Option.some.injEq, Sl.d.injEq, Sl.l.injEq, PyData.int.injEq, PyData.bool.injEq, PyData.str.injEq, PyData.tuple.injEq, PyData.list.injEq, and_true, true_and, List.length_cons, List.length_nil, Nat.reduceAdd, Option.map_some, Option.bind_some, if_true, if_false, Bool.false_eq_true, Bool.not_true, Bool.not_false, wHeard, noOwn, List.map_cons, List.map_nil, rf2, h1, res_r, sz1]
  exact heard1 (Q := fun x => G.nx [.un, .dk, s2, .d (.int m), .d (circ l gs), .d (.str (circ l gs).shown), .d (.list ((rowD gs l.length).map .bool)), s7, .d (.bool (tv (gv gs) l [])), .d (.int (cnt (rowD gs l.length))), .d (circ (l.map (!·)) (turnG gs)), .d bad, .d odd, .l [x], s14, s15, s16, s17, s18, s19, s20, s21]) hb.shown h
theorem q10_is (ne : C1 ≠ C2) (hc : CircOk l gs) (ho : NoF l.length odd) (h : G.nx [.un, .dk, s2, .d (.int m), .d (circ l gs), .d (.str (circ l gs).shown), .d (.list ((rowD gs l.length).map .bool)), s7, .d (.bool (tv (gv gs) l [])), .d (.int (cnt (rowD gs l.length))), .d (circ (l.map (!·)) (turnG gs)), .d bad, .d odd, .l [.tuple [.str "circuit", .str bad.shown, .bool true], .tuple [.str "filling", .str odd.shown, .bool true]], s14, s15, s16, s17, s18, s19, s20, s21]) : q10 C1 C2 [.un, .dk, s2, .d (.int m), .d (circ l gs), .d (.str (circ l gs).shown), .d (.list ((rowD gs l.length).map .bool)), s7, .d (.bool (tv (gv gs) l [])), .d (.int (cnt (rowD gs l.length))), .d (circ (l.map (!·)) (turnG gs)), .d bad, .d odd, .l [.tuple [.str "circuit", .str bad.shown, .bool true]], s14, s15, s16, s17, s18, s19, s20, s21] G := by
  have h1 := y_after_odd C1 C2 hc odd ho.sm ho.no
  have z : (1 < sizeLine) = True := eq_true (by decide)
  simp only [q10, wSeq, wIfS, wRet, wAsg, vD, vL, wNext, wDrop, wCall, wLen, pK, pD, pNil, w2, w1, wVar, wC, wTst, wAnd, wOr, wNot, wIf, wAndV, wOrV, wNotV, wNil, wCons, wTup, wLst, wAsL, wIxO, wNoO, wO, wSl, wChain, wIsi, wCl, wListOf, wMt, wBor, wBorT, wFrz, wApp, wExt, wPar2, wIL, wIT, wIS, wR1, wAsgG, gN, gNs, gC, gT, frz, unAll, wNeg, negD, wRaise, List.set, List.getElem?_cons_zero, List.getElem?_cons_succ, exists_eq_left', exists_eq_left, Option.some.injEq, Sl.d.injEq, Sl.l.injEq, PyData.int.injEq, PyData.bool.injEq, PyData.str.injEq, PyData.tuple.injEq, PyData.list.injEq, and_true, true_and, List.length_cons, List.length_nil, Nat.reduceAdd, Option.map_some, Option.bind_some, if_true, if_false, Bool.false_eq_true, Bool.not_true, Bool.not_false, wPerm, g_1_0, wHeard, noOwn, List.map_cons, List.map_nil, rf2, h1, res_r, sz1, z]
  exact heard2 (Q := fun x => G.nx [.un, .dk, s2, .d (.int m), .d (circ l gs), .d (.str (circ l gs).shown), .d (.list ((rowD gs l.length).map .bool)), s7, .d (.bool (tv (gv gs) l [])), .d (.int (cnt (rowD gs l.length))), .d (circ (l.map (!·)) (turnG gs)), .d bad, .d odd, .l [.tuple [.str "circuit", .str bad.shown, .bool true], x], s14, s15, s16, s17, s18, s19, s20, s21]) ne ho.shown h
theorem q11_is (hb : NoC bad) (h : G.nx [.un, .dk, s2, .d (.int m), .d (circ l gs), .d (.str (circ l gs).shown), .d (.list ((rowD gs l.length).map .bool)), s7, .d (.bool (tv (gv gs) l [])), .d (.int (cnt (rowD gs l.length))), .d (circ (l.map (!·)) (turnG gs)), .d bad, .d odd, .l [.tuple [.str "circuit", .str bad.shown, .bool true], .tuple [.str "filling", .str odd.shown, .bool true], .tuple [.str "circuit", .str bad.shown, .bool true]], s14, s15, s16, s17, s18, s19, s20, s21]) : q11 C1 C2 [.un, .dk, s2, .d (.int m), .d (circ l gs), .d (.str (circ l gs).shown), .d (.list ((rowD gs l.length).map .bool)), s7, .d (.bool (tv (gv gs) l [])), .d (.int (cnt (rowD gs l.length))), .d (circ (l.map (!·)) (turnG gs)), .d bad, .d odd, .l [.tuple [.str "circuit", .str bad.shown, .bool true], .tuple [.str "filling", .str odd.shown, .bool true]], s14, s15, s16, s17, s18, s19, s20, s21] G := by
  have h1 := y_value_bad C1 bad hb.sm hb.no
  have z : (2 < sizeLine) = True := eq_true (by decide)
  simp only [q11, wSeq, wIfS, wRet, wAsg, vD, vL, wNext, wDrop, wCall, wLen, pK, pD, pNil, w2, w1, wVar, wC, wTst, wAnd, wOr, wNot, wIf, wAndV, wOrV, wNotV, wNil, wCons, wTup, wLst, wAsL, wIxO, wNoO, wO, wSl, wChain, wIsi, wCl, wListOf, wMt, wBor, wBorT, wFrz, wApp, wExt, wPar2, wIL, wIT, wIS, wR1, wAsgG, gN, gNs, gC, gT, frz, unAll, wNeg, negD, wRaise, List.set, List.getElem?_cons_zero, List.getElem?_cons_succ, exists_eq_left', exists_eq_left, Option.some.injEq, Sl.d.injEq, Sl.l.injEq, PyData.int.injEq, PyData.bool.injEq, PyData.str.injEq, PyData.tuple.injEq, PyData.list.injEq, and_true, true_and, List.length_cons, List.length_nil, Nat.reduceAdd, Option.map_some, Option.bind_some, if_true, if_false, Bool.false_eq_true, Bool.not_true, Bool.not_false, wPerm, g_0, wHeard, noOwn, List.map_cons, List.map_nil, rf1, h1, res_r, sz1, z]
  exact heard1 (Q := fun x => G.nx [.un, .dk, s2, .d (.int m), .d (circ l gs), .d (.str (circ l gs).shown), .d (.list ((rowD gs l.length).map .bool)), s7, .d (.bool (tv (gv gs) l [])), .d (.int (cnt (rowD gs l.length))), .d (circ (l.map (!·)) (turnG gs)), .d bad, .d odd, .l [.tuple [.str "circuit", .str bad.shown, .bool true], .tuple [.str "filling", .str odd.shown, .bool true], x], s14, s15, s16, s17, s18, s19, s20, s21]) hb.shown h
theorem q12_is (hb : NoC bad) (h : G.nx [.un, .dk, s2, .d (.int m), .d (circ l gs), .d (.str (circ l gs).shown), .d (.list ((rowD gs l.length).map .bool)), s7, .d (.bool (tv (gv gs) l [])), .d (.int (cnt (rowD gs l.length))), .d (circ (l.map (!·)) (turnG gs)), .d bad, .d odd, .l [.tuple [.str "circuit", .str bad.shown, .bool true], .tuple [.str "filling", .str odd.shown, .bool true], .tuple [.str "circuit", .str bad.shown, .bool true], .tuple [.str "circuit", .str bad.shown, .bool true]], s14, s15, s16, s17, s18, s19, s20, s21]) : q12 C1 C2 [.un, .dk, s2, .d (.int m), .d (circ l gs), .d (.str (circ l gs).shown), .d (.list ((rowD gs l.length).map .bool)), s7, .d (.bool (tv (gv gs) l [])), .d (.int (cnt (rowD gs l.length))), .d (circ (l.map (!·)) (turnG gs)), .d bad, .d odd, .l [.tuple [.str "circuit", .str bad.shown, .bool true], .tuple [.str "filling", .str odd.shown, .bool true], .tuple [.str "circuit", .str bad.shown, .bool true]], s14, s15, s16, s17, s18, s19, s20, s21] G := by
  have h1 := y_many_bad C1 bad hb.sm hb.no
  have z : (3 < sizeLine) = True := eq_true (by decide)
  simp only [q12, wSeq, wIfS, wRet, wAsg, vD, vL, wNext, wDrop, wCall, wLen, pK, pD, pNil, w2, w1, wVar, wC, wTst, wAnd, wOr, wNot, wIf, wAndV, wOrV, wNotV, wNil, wCons, wTup, wLst, wAsL, wIxO, wNoO, wO, wSl, wChain, wIsi, wCl, wListOf, wMt, wBor, wBorT, wFrz, wApp, wExt, wPar2, wIL, wIT, wIS, wR1, wAsgG, gN, gNs, gC, gT, frz, unAll, wNeg, negD, wRaise, List.set, List.getElem?_cons_zero, List.getElem?_cons_succ, exists_eq_left', exists_eq_left, Option.some.injEq, Sl.d.injEq, Sl.l.injEq, PyData.int.injEq, PyData.bool.injEq, PyData.str.injEq, PyData.tuple.injEq, PyData.list.injEq, and_true, true_and, List.length_cons, List.length_nil, Nat.reduceAdd, Option.map_some, Option.bind_some, if_true, if_false, Bool.false_eq_true, Bool.not_true, Bool.not_false, wHeard, noOwn, List.map_cons, List.map_nil, rf1, h1, res_r, sz1, z]
  exact heard1 (Q := fun x => G.nx [.un, .dk, s2, .d (.int m), .d (circ l gs), .d (.str (circ l gs).shown), .d (.list ((rowD gs l.length).map .bool)), s7, .d (.bool (tv (gv gs) l [])), .d (.int (cnt (rowD gs l.length))), .d (circ (l.map (!·)) (turnG gs)), .d bad, .d odd, .l [.tuple [.str "circuit", .str bad.shown, .bool true], .tuple [.str "filling", .str odd.shown, .bool true], .tuple [.str "circuit", .str bad.shown, .bool true], x], s14, s15, s16, s17, s18, s19, s20, s21]) hb.shown h
theorem q13_is (hb : NoC bad) (h : G.nx [.un, .dk, s2, .d (.int m), .d (circ l gs), .d (.str (circ l gs).shown), .d (.list ((rowD gs l.length).map .bool)), s7, .d (.bool (tv (gv gs) l [])), .d (.int (cnt (rowD gs l.length))), .d (circ (l.map (!·)) (turnG gs)), .d bad, .d odd, .l [.tuple [.str "circuit", .str bad.shown, .bool true], .tuple [.str "filling", .str odd.shown, .bool true], .tuple [.str "circuit", .str bad.shown, .bool true], .tuple [.str "circuit", .str bad.shown, .bool true]], .d (.tuple [.str "circuit", .str bad.shown, .bool true]), s15, s16, s17, s18, s19, s20, s21]) : q13 C1 C2 [.un, .dk, s2, .d (.int m), .d (circ l gs), .d (.str (circ l gs).shown), .d (.list ((rowD gs l.length).map .bool)), s7, .d (.bool (tv (gv gs) l [])), .d (.int (cnt (rowD gs l.length))), .d (circ (l.map (!·)) (turnG gs)), .d bad, .d odd, .l [.tuple [.str "circuit", .str bad.shown, .bool true], .tuple [.str "filling", .str odd.shown, .bool true], .tuple [.str "circuit", .str bad.shown, .bool true], .tuple [.str "circuit", .str bad.shown, .bool true]], s14, s15, s16, s17, s18, s19, s20, s21] G := by
  have h1 : reprD [bad] = some (.str bad.shown) := if_pos hb.shown
  simp only [q13, wSeq, wIfS, wRet, wAsg, vD, vL, wNext, wDrop, wCall, wLen, pK, pD, pNil, w2, w1, wVar, wC, wTst, wAnd, wOr, wNot, wIf, wAndV, wOrV, wNotV, wNil, wCons, wTup, wLst, wAsL, wIxO, wNoO, wO, wSl, wChain, wIsi, wCl, wListOf, wMt, wBor, wBorT, wFrz, wApp, wExt, wPar2, wIL, wIT, wIS, wR1, wAsgG, gN, gNs, gC, gT, frz, unAll, wNeg, negD, wRaise, List.set, List.getElem?_cons_zero, List.getElem?_cons_succ, exists_eq_left', exists_eq_left, Option.some.injEq, Sl.d.injEq, Sl.l.injEq, PyData.int.injEq, PyData.bool.injEq, PyData.str.injEq, PyData.tuple.injEq, PyData.list.injEq, and_true, true_and, List.length_cons, List.length_nil, Nat.reduceAdd, Option.map_some, Option.bind_some, if_true, if_false, Bool.false_eq_true, Bool.not_true, Bool.not_false, h1, sz3]
  exact h
theorem q14_is (hc : CircOk l gs) (hb : NoC bad) (ho : NoF l.length odd) (h : ∀ s13, G.nx [.un, .dk, s2, .d (.int m), .d (circ l gs), .d (.str (circ l gs).shown), .d (.list ((rowD gs l.length).map .bool)), s7, .d (.bool (tv (gv gs) l [])), .d (.int (cnt (rowD gs l.length))), .d (circ (l.map (!·)) (turnG gs)), .d bad, .d odd, s13, .d (.tuple [.str "circuit", .str bad.shown, .bool true]), s15, s16, s17, s18, s19, s20, s21]) : q14 C1 C2 [.un, .dk, s2, .d (.int m), .d (circ l gs), .d (.str (circ l gs).shown), .d (.list ((rowD gs l.length).map .bool)), s7, .d (.bool (tv (gv gs) l [])), .d (.int (cnt (rowD gs l.length))), .d (circ (l.map (!·)) (turnG gs)), .d bad, .d odd, .l [.tuple [.str "circuit", .str bad.shown, .bool true], .tuple [.str "filling", .str odd.shown, .bool true], .tuple [.str "circuit", .str bad.shown, .bool true], .tuple [.str "circuit", .str bad.shown, .bool true]], .d (.tuple [.str "circuit", .str bad.shown, .bool true]), s15, s16, s17, s18, s19, s20, s21] G := by
  have h1 : reprD [odd] = some (.str odd.shown) := if_pos ho.shown
  have h2 := circ_repr hc
  have a1 := ascii_ok (shown_ascii bad hb.fit)
  have a2 := ascii_ok (shown_ascii odd ho.fit)
  have f1 := (circ_fit (show l.length ≤ 64 by have := hc.l12; omega) hc.g64 hc.ok).1
  have a3 := ascii_ok (shown_ascii _ f1)
  have c1 : PyData.strOk "circuit" = true := by decide +kernel
  have c2 : PyData.strOk "filling" = true := by decide +kernel
  have h3 : neD (.list [.tuple [.str "circuit", .str bad.shown, .bool true], .tuple [.str "filling", .str odd.shown, .bool true], .tuple [.str "circuit", .str bad.shown, .bool true], .tuple [.str "circuit", .str bad.shown, .bool true]]) (.list [.tuple [.str "circuit", .str bad.shown, .bool true], .tuple [.str "filling", .str odd.shown, .bool true], .tuple [.str "circuit", .str bad.shown, .bool true], .tuple [.str "circuit", .str bad.shown, .bool true]]) = some (.bool false) := ne_self (by simp [PyData.canLay0, PyData.canLayAll0, a1, a2, c1, c2]) (by simp [PyData.depth, PyData.depthAll])
  have h4 : neD (.str (circ l gs).shown) (.str (circ l gs).shown) = some (.bool false) := ne_self (by simpa [PyData.canLay0] using a3) (by simp [PyData.depth])
  simp only [q14, wSeq, wIfS, wRet, wAsg, vD, vL, wNext, wDrop, wCall, wLen, pK, pD, pNil, w2, w1, wVar, wC, wTst, wAnd, wOr, wNot, wIf, wAndV, wOrV, wNotV, wNil, wCons, wTup, wLst, wAsL, wIxO, wNoO, wO, wSl, wChain, wIsi, wCl, wListOf, wMt, wBor, wBorT, wFrz, wApp, wExt, wPar2, wIL, wIT, wIS, wR1, wAsgG, gN, gNs, gC, gT, frz, unAll, wNeg, negD, wRaise, List.set, List.getElem?_cons_zero, List.getElem?_cons_succ, exists_eq_left', exists_eq_left, Option.some.injEq, Sl.d.injEq, Sl.l.injEq, PyData.int.injEq, PyData.bool.injEq, PyData.str.injEq, PyData.tuple.injEq, PyData.list.injEq, and_true, true_and, List.length_cons, List.length_nil, Nat.reduceAdd, Option.map_some, Option.bind_some, if_true, if_false, Bool.false_eq_true, Bool.not_true, Bool.not_false, h1, h2, h3, h4, sz3, sz4]
  exact h _
theorem qB_is (ne : C1 ≠ C2) (h : ∀ s3 s4 s5 s6 s7 s8 s9 s10 s11 s12 s13 s14 s15 s16 s17 s18 s19 s20 s21, G.nx [.un, .dk, s2, s3, s4, s5, s6, s7, s8, s9, s10, s11, s12, s13, s14, s15, s16, s17, s18, s19, s20, s21]) : qB C1 C2 [.un, .dk, s2, s3, s4, s5, s6, s7, s8, s9, s10, s11, s12, s13, s14, s15, s16, s17, s18, s19, s20, s21] G := by
  refine q0_is (C1 := C1) (C2 := C2) fun m hm => ?_
  refine q1_is (C1 := C1) (C2 := C2) (show m ≤ 12 by omega) fun l gs hl hg hc => ?_
  refine q2_is (C1 := C1) (C2 := C2) hc ?_
  refine q3_is (C1 := C1) (C2 := C2) hc hl fun t7 t8 t13 t15 t16 t17 t18 t19 => ?_
  refine q4_is (C1 := C1) (C2 := C2) hc ?_
  refine q5_is (C1 := C1) (C2 := C2) hc ?_
  refine q6_is (C1 := C1) (C2 := C2) hc hg ?_
  refine q7_is (C1 := C1) (C2 := C2) hc hg ?_
  refine q8_is (C1 := C1) (C2 := C2) hc hg hl fun bad odd hb ho => ?_
  refine q9_is (C1 := C1) (C2 := C2) hb ?_
  refine q10_is (C1 := C1) (C2 := C2) ne hc ho ?_
  refine q11_is (C1 := C1) (C2 := C2) hb ?_
  refine q12_is (C1 := C1) (C2 := C2) hb ?_
  refine q13_is (C1 := C1) (C2 := C2) hb ?_
  refine q14_is (C1 := C1) (C2 := C2) hc hb ho fun t13' => ?_
  exact h _ _ _ _ _ _ _ _ _ _ _ _ _ _ _ _ _ _ _
theorem law_is (ne : C1 ≠ C2) {Q : PyData → Prop} (hQ : Q (.bool true)) : b_law cDrawn cPick (wf f__law_row) cD (wf f__law_value) (wf f__law_same) cNoC cNoF (rf (x_after C1 C2)) (rf (x_value C1)) (rf (x_many C1)) (wf f__law_fillings) (clsK C1 C2) [.un, .dk, s2, s3, s4, s5, s6, s7, s8, s9, s10, s11, s12, s13, s14, s15, s16, s17, s18, s19, s20, s21] (enD Q) := by
  rw [b_eq]
  have small3 : smallI 3 := by unfold smallI; decide
  refine ⟨3, rfl, small3, ?_⟩
  refine forD_rng (P := fun k ρ => ∃ s2 s3 s4 s5 s6 s7 s8 s9 s10 s11 s12 s13 s14 s15 s16 s17 s18 s19 s20 s21, ρ = [.un, .dk, s2, s3, s4, s5, s6, s7, s8, s9, s10, s11, s12, s13, s14, s15, s16, s17, s18, s19, s20, s21]) ⟨s2, s3, s4, s5, s6, s7, s8, s9, s10, s11, s12, s13, s14, s15, s16, s17, s18, s19, s20, s21, rfl⟩ ?_ ?_
  · rintro k ρ hk ⟨s2, s3, s4, s5, s6, s7, s8, s9, s10, s11, s12, s13, s14, s15, s16, s17, s18, s19, s20, s21, rfl⟩
    refine ⟨_, rfl, fun E' a b c d => ?_⟩
    exact qB_is ne fun t3 t4 t5 t6 t7 t8 t9 t10 t11 t12 t13 t14 t15 t16 t17 t18 t19 t20 t21 => b _ ⟨_, _, _, _, _, _, _, _, _, _, _, _, _, _, _, _, _, _, _, _, rfl⟩
  · rintro ρ ⟨s2, s3, s4, s5, s6, s7, s8, s9, s10, s11, s12, s13, s14, s15, s16, s17, s18, s19, s20, s21, rfl⟩
    exact hQ
end K66
set_option maxRecDepth 100000
set_option maxHeartbeats 4000000
namespace K66
open PySem PySem.Spec L2 DL DR
def wNone : WF := fun _ _ _ => False
theorem m_none : MonoF wNone := fun _ _ _ _ _ _ _ h => h
theorem ok_none {P : Program} {wd : World} {K : PySem.W.Frag} {mg : Str → Option Value} {base : Heap} {CX : CXT} {k n : Nat} {f : Addr} {fd : FuncData} {ps : List Str} {w : WF} (hn : n = ps.length) (h : ∀ ss Q E, ¬ w ss Q E) : FnOk P wd K mg base CX k f fd ps (spD K n w) :=
  ⟨fun vs H Q E q => by obtain ⟨dk, G, ss, _, _, _, _, q⟩ := q; exact (h _ _ _ q).elim, fun A outer s H args us vs Q E _ _ _ _ q => by obtain ⟨dk, G, ss, _, _, _, _, q⟩ := q; exact (h _ _ _ q).elim⟩
theorem o_is_integer {P : Program} {wd : World} {K : PySem.W.Frag} {mg : Str → Option Value} {base : Heap} {a : Adr} (T : Tx K mg a) : FnOk P wd K mg base CX0 1 a.f_is_integer a.fd_is_integer ["thing"] (spD K 1 (wf f_is_integer)) := ok_def T.D_is_integer.fu S_is_integer rfl (b_is_integer) (fun cdv A outer s H E F hr => d_is_integer T hr) r_is_integer
theorem o_is_from {P : Program} {wd : World} {K : PySem.W.Frag} {mg : Str → Option Value} {base : Heap} {a : Adr} (T : Tx K mg a) : FnOk P wd K mg base CX0 2 a.f_is_from a.fd_is_from ["thing", "least"] (spD K 2 (wf f_is_from)) := ok_def T.D_is_from.fu S_is_from rfl (b_is_from (wf f_is_integer)) (fun cdv A outer s H E F hr => d_is_from T m_wf (o_is_integer T) (by decide) hr) r_is_from
theorem o_is_tuple {P : Program} {wd : World} {K : PySem.W.Frag} {mg : Str → Option Value} {base : Heap} {a : Adr} (T : Tx K mg a) : FnOk P wd K mg base CX0 1 a.f_is_tuple a.fd_is_tuple ["thing", "many"] (spD K 2 (wf f_is_tuple)) := ok_def T.D_is_tuple.fu S_is_tuple rfl (b_is_tuple) (fun cdv A outer s H E F hr => d_is_tuple T hr) r_is_tuple
theorem o_is_word_of {P : Program} {wd : World} {K : PySem.W.Frag} {mg : Str → Option Value} {base : Heap} {a : Adr} (T : Tx K mg a) : FnOk P wd K mg base CX0 1 a.f_is_word_of a.fd_is_word_of ["thing", "signs"] (spD K 2 (wf f_is_word_of)) := ok_def T.D_is_word_of.fu S_is_word_of rfl (b_is_word_of) (fun cdv A outer s H E F hr => d_is_word_of T hr) r_is_word_of
theorem o_is_gate {P : Program} {wd : World} {K : PySem.W.Frag} {mg : Str → Option Value} {base : Heap} {a : Adr} (T : Tx K mg a) : FnOk P wd K mg base CX0 3 a.f_is_gate a.fd_is_gate ["thing", "many", "number"] (spD K 3 (wf f_is_gate)) := ok_def T.D_is_gate.fu S_is_gate rfl (b_is_gate (wf f_is_from)) (fun cdv A outer s H E F hr => d_is_gate T m_wf (o_is_from T) (by decide) hr) r_is_gate
theorem o_is_circuit_value {P : Program} {wd : World} {K : PySem.W.Frag} {mg : Str → Option Value} {base : Heap} {a : Adr} (T : Tx K mg a) : FnOk P wd K mg base CX0 4 a.f_is_circuit_value a.fd_is_circuit_value ["thing"] (spD K 1 (wf f_is_circuit_value)) := ok_def T.D_is_circuit_value.fu S_is_circuit_value rfl (b_is_circuit_value (wf f_is_tuple) (wf f_is_word_of) (wf f_is_gate)) (fun cdv A outer s H E F hr => d_is_circuit_value T m_wf (o_is_tuple T) (by decide) m_wf (o_is_word_of T) (by decide) m_wf (o_is_gate T) (by decide) hr) r_is_circuit_value
theorem o_gate_value {P : Program} {wd : World} {K : PySem.W.Frag} {mg : Str → Option Value} {base : Heap} {a : Adr} (T : Tx K mg a) : FnOk P wd K mg base CX0 1 a.f_gate_value a.fd_gate_value ["gate", "known", "filling"] (spD K 3 (wf f_gate_value)) := ok_def T.D_gate_value.fu S_gate_value rfl (b_gate_value) (fun cdv A outer s H E F hr => d_gate_value T hr) r_gate_value
theorem o_values_for {P : Program} {wd : World} {K : PySem.W.Frag} {mg : Str → Option Value} {base : Heap} {a : Adr} (T : Tx K mg a) : FnOk P wd K mg base CX0 2 a.f_values_for a.fd_values_for ["gates", "filling"] (spD K 2 (wf f_values_for)) := ok_def T.D_values_for.fu S_values_for rfl (b_values_for (wf f_gate_value)) (fun cdv A outer s H E F hr => d_values_for T m_wf (o_gate_value T) (by decide) hr) r_values_for
theorem o_value_from {P : Program} {wd : World} {K : PySem.W.Frag} {mg : Str → Option Value} {base : Heap} {a : Adr} (T : Tx K mg a) : ∀ n : Nat, FnOk P wd K mg base CX0 (n + 3) a.f_value_from a.fd_value_from ["circuit", "filling"] (spD K 2 (wf (f_value_from n)))
  | 0 => ok_none rfl fun ss Q E h => by obtain ⟨ds, r, _, e, _⟩ := h; cases e
  | n + 1 => ok_def (k := n + 1 + 2) T.D_value_from.fu S_value_from rfl (b_value_from (wf (f_value_from n)) (wf f_values_for)) (fun cdv A outer s H E F hr => d_value_from T m_wf (o_value_from T n) (by omega) m_wf (o_values_for T) (by omega) hr) (r_value_from n)
theorem o_is_filling_value {P : Program} {wd : World} {K : PySem.W.Frag} {mg : Str → Option Value} {base : Heap} {a : Adr} (T : Tx K mg a) : FnOk P wd K mg base CX0 2 a.f_is_filling_value a.fd_is_filling_value ["thing"] (spD K 1 (wf f_is_filling_value)) := ok_def T.D_is_filling_value.fu S_is_filling_value rfl (b_is_filling_value (wf f_is_word_of)) (fun cdv A outer s H E F hr => d_is_filling_value T m_wf (o_is_word_of T) (by decide) hr) r_is_filling_value
theorem o_all_fillings {P : Program} {wd : World} {K : PySem.W.Frag} {mg : Str → Option Value} {base : Heap} {a : Adr} (T : Tx K mg a) : FnOk P wd K mg base CX0 1 a.f_all_fillings a.fd_all_fillings ["many"] (spD K 1 (wf f_all_fillings)) := ok_def T.D_all_fillings.fu S_all_fillings rfl (b_all_fillings) (fun cdv A outer s H E F hr => d_all_fillings T hr) r_all_fillings
theorem o_need_circuit {P : Program} {wd : World} {K : PySem.W.Frag} {mg : Str → Option Value} {base : Heap} {a : Adr} (T : Tx K mg a) : FnOk P wd K mg base (L2.CX P wd) 5 a.f_need_circuit a.fd_need_circuit ["circuit"] (spD K 1 (rf (x_need a.C_BadCircuit))) := ok_defX T.D_need_circuit.fu S_need_circuit rfl (fun Ex => b_need_circuit (wf f_is_circuit_value) a.C_BadCircuit Ex) (fun cdv A outer s H E F hr => d_need_circuit T m_wf (o_is_circuit_value T) (by decide) hr) (r_need a.C_BadCircuit)
theorem o_circuit_after {P : Program} {wd : World} {K : PySem.W.Frag} {mg : Str → Option Value} {base : Heap} {a : Adr} (T : Tx K mg a) : FnOk P wd K mg base (L2.CX P wd) 17 a.f_circuit_after a.fd_circuit_after ["circuit", "filling"] (spD K 2 (rf (x_after a.C_BadCircuit a.C_BadFilling))) := ok_defX T.D_circuit_after.fu S_circuit_after rfl (fun Ex => b_circuit_after (rf (x_need a.C_BadCircuit)) (wf (f_value_from 13)) (wf f_is_filling_value) a.C_BadFilling Ex) (fun cdv A outer s H E F hr => d_circuit_after T m_rf (o_need_circuit T) (by decide) m_wf (o_value_from T 13) (by decide) m_wf (o_is_filling_value T) (by decide) hr) (r_after a.C_BadCircuit a.C_BadFilling)
theorem o_circuit_value {P : Program} {wd : World} {K : PySem.W.Frag} {mg : Str → Option Value} {base : Heap} {a : Adr} (T : Tx K mg a) : FnOk P wd K mg base (L2.CX P wd) 17 a.f_circuit_value a.fd_circuit_value ["circuit"] (spD K 1 (rf (x_value a.C_BadCircuit))) := ok_defX T.D_circuit_value.fu S_circuit_value rfl (fun Ex => b_circuit_value (rf (x_need a.C_BadCircuit)) (wf (f_value_from 13)) Ex) (fun cdv A outer s H E F hr => d_circuit_value T m_rf (o_need_circuit T) (by decide) m_wf (o_value_from T 13) (by decide) hr) (r_value a.C_BadCircuit)
theorem o_many_true {P : Program} {wd : World} {K : PySem.W.Frag} {mg : Str → Option Value} {base : Heap} {a : Adr} (T : Tx K mg a) : FnOk P wd K mg base (L2.CX P wd) 6 a.f_many_true a.fd_many_true ["circuit"] (spD K 1 (rf (x_many a.C_BadCircuit))) := ok_defX T.D_many_true.fu S_many_true rfl (fun Ex => b_many_true (rf (x_need a.C_BadCircuit)) (wf f_all_fillings) (wf f_values_for) Ex) (fun cdv A outer s H E F hr => d_many_true T m_rf (o_need_circuit T) (by decide) m_wf (o_all_fillings T) (by decide) m_wf (o_values_for T) (by decide) hr) (r_many a.C_BadCircuit)
theorem o__law_draw {P : Program} {wd : World} {K : PySem.W.Frag} {mg : Str → Option Value} {base : Heap} {a : Adr} (T : Tx K mg a) : FnOk P wd K mg base CX0 1 a.f__law_draw a.fd__law_draw ["deck", "many"] (spD K 2 cD) := ok_def T.D__law_draw.fu S__law_draw rfl (b__law_draw) (fun cdv A outer s H E F hr => d__law_draw T hr) r_draw
theorem o__law_pick {P : Program} {wd : World} {K : PySem.W.Frag} {mg : Str → Option Value} {base : Heap} {a : Adr} (T : Tx K mg a) : FnOk P wd K mg base CX0 2 a.f__law_pick a.fd__law_pick ["deck", "some"] (spD K 2 cPick) := ok_def T.D__law_pick.fu S__law_pick rfl (b__law_pick cD) (fun cdv A outer s H E F hr => d__law_pick T m_cD (o__law_draw T) (by decide) hr) r_pick
theorem o__law_near_number {P : Program} {wd : World} {K : PySem.W.Frag} {mg : Str → Option Value} {base : Heap} {a : Adr} (T : Tx K mg a) : FnOk P wd K mg base CX0 2 a.f__law_near_number a.fd__law_near_number ["deck", "g"] (spD K 2 cNear) := ok_def T.D__law_near_number.fu S__law_near_number rfl (b__law_near_number cD) (fun cdv A outer s H E F hr => d__law_near_number T m_cD (o__law_draw T) (by decide) hr) r_near
theorem o__law_drawn_circuit {P : Program} {wd : World} {K : PySem.W.Frag} {mg : Str → Option Value} {base : Heap} {a : Adr} (T : Tx K mg a) : FnOk P wd K mg base CX0 3 a.f__law_drawn_circuit a.fd__law_drawn_circuit ["deck", "m", "many"] (spD K 3 cDrawn) := ok_def T.D__law_drawn_circuit.fu S__law_drawn_circuit rfl (b__law_drawn_circuit cD cPick cNear) (fun cdv A outer s H E F hr => d__law_drawn_circuit T m_cD (o__law_draw T) (by decide) m_cPick (o__law_pick T) (by decide) m_cNear (o__law_near_number T) (by decide) hr) r_drawn
theorem o__law_same {P : Program} {wd : World} {K : PySem.W.Frag} {mg : Str → Option Value} {base : Heap} {a : Adr} (T : Tx K mg a) : FnOk P wd K mg base CX0 1 a.f__law_same a.fd__law_same ["told", "due"] (spD K 2 (wf f__law_same)) := ok_def T.D__law_same.fu S__law_same rfl (b__law_same) (fun cdv A outer s H E F hr => d__law_same T hr) r__law_same
theorem o__law_values {P : Program} {wd : World} {K : PySem.W.Frag} {mg : Str → Option Value} {base : Heap} {a : Adr} (T : Tx K mg a) : FnOk P wd K mg base CX0 1 a.f__law_values a.fd__law_values ["gates", "filling"] (spD K 2 (wf f__law_values)) := ok_def T.D__law_values.fu S__law_values rfl (b__law_values) (fun cdv A outer s H E F hr => d__law_values T hr) r__law_values
theorem o__law_fillings {P : Program} {wd : World} {K : PySem.W.Frag} {mg : Str → Option Value} {base : Heap} {a : Adr} (T : Tx K mg a) : FnOk P wd K mg base CX0 1 a.f__law_fillings a.fd__law_fillings ["m"] (spD K 1 (wf f__law_fillings)) := ok_def T.D__law_fillings.fu S__law_fillings rfl (b__law_fillings) (fun cdv A outer s H E F hr => d__law_fillings T hr) r__law_fillings
theorem o__law_row {P : Program} {wd : World} {K : PySem.W.Frag} {mg : Str → Option Value} {base : Heap} {a : Adr} (T : Tx K mg a) : FnOk P wd K mg base CX0 2 a.f__law_row a.fd__law_row ["circuit"] (spD K 1 (wf f__law_row)) := ok_def T.D__law_row.fu S__law_row rfl (b__law_row (wf f__law_values) (wf f__law_fillings)) (fun cdv A outer s H E F hr => d__law_row T m_wf (o__law_values T) (by decide) m_wf (o__law_fillings T) (by decide) hr) r__law_row
theorem o__law_value {P : Program} {wd : World} {K : PySem.W.Frag} {mg : Str → Option Value} {base : Heap} {a : Adr} (T : Tx K mg a) : FnOk P wd K mg base CX0 1 a.f__law_value a.fd__law_value ["prefix", "row"] (spD K 2 (wf f__law_value)) := ok_def T.D__law_value.fu S__law_value rfl (b__law_value) (fun cdv A outer s H E F hr => d__law_value T hr) r__law_value
theorem o__law_is_whole {P : Program} {wd : World} {K : PySem.W.Frag} {mg : Str → Option Value} {base : Heap} {a : Adr} (T : Tx K mg a) : FnOk P wd K mg base CX0 1 a.f__law_is_whole a.fd__law_is_whole ["thing"] (spD K 1 (wf f__law_is_whole)) := ok_def T.D__law_is_whole.fu S__law_is_whole rfl (b__law_is_whole) (fun cdv A outer s H E F hr => d__law_is_whole T hr) r__law_is_whole
theorem o__law_is_gate {P : Program} {wd : World} {K : PySem.W.Frag} {mg : Str → Option Value} {base : Heap} {a : Adr} (T : Tx K mg a) : FnOk P wd K mg base CX0 2 a.f__law_is_gate a.fd__law_is_gate ["m", "g", "thing"] (spD K 3 (wf f__law_is_gate)) := ok_def T.D__law_is_gate.fu S__law_is_gate rfl (b__law_is_gate (wf f__law_is_whole)) (fun cdv A outer s H E F hr => d__law_is_gate T m_wf (o__law_is_whole T) (by decide) hr) r__law_is_gate
theorem o__law_is_circuit {P : Program} {wd : World} {K : PySem.W.Frag} {mg : Str → Option Value} {base : Heap} {a : Adr} (T : Tx K mg a) : FnOk P wd K mg base CX0 3 a.f__law_is_circuit a.fd__law_is_circuit ["thing"] (spD K 1 (wf f__law_is_circuit)) := ok_def T.D__law_is_circuit.fu S__law_is_circuit rfl (b__law_is_circuit (wf f__law_is_gate)) (fun cdv A outer s H E F hr => d__law_is_circuit T m_wf (o__law_is_gate T) (by decide) hr) r__law_is_circuit
theorem o__law_bent {P : Program} {wd : World} {K : PySem.W.Frag} {mg : Str → Option Value} {base : Heap} {a : Adr} (T : Tx K mg a) : ∀ n : Nat, FnOk P wd K mg base CX0 (n + 3) a.f__law_bent a.fd__law_bent ["deck", "thing"] (spD K 2 (cBent n))
  | 0 => ok_def (k := 2) T.D__law_bent.fu S__law_bent rfl (b__law_bent cPick cD wNone) (fun cdv A outer s H E F hr => d__law_bent T m_cPick (o__law_pick T) (by omega) m_cD (o__law_draw T) (by omega) m_none (ok_none (k := 0) rfl fun ss Q E h => h) (Nat.zero_le _) hr) (r_bent fun _ _ h => absurd h (Nat.not_lt_zero _))
  | n + 1 => ok_def (k := n + 1 + 2) T.D__law_bent.fu S__law_bent rfl (b__law_bent cPick cD (cBent n)) (fun cdv A outer s H E F hr => d__law_bent T m_cPick (o__law_pick T) (by omega) m_cD (o__law_draw T) (by omega) m_cBent (o__law_bent T n) (by omega) hr) (r_bent fun _ _ _ h => h)
theorem o__law_no_circuit {P : Program} {wd : World} {K : PySem.W.Frag} {mg : Str → Option Value} {base : Heap} {a : Adr} (T : Tx K mg a) : FnOk P wd K mg base CX0 8 a.f__law_no_circuit a.fd__law_no_circuit ["deck", "circuit"] (spD K 2 cNoC) := ok_def T.D__law_no_circuit.fu S__law_no_circuit rfl (b__law_no_circuit (cBent 3) (wf f__law_is_circuit)) (fun cdv A outer s H E F hr => d__law_no_circuit T m_cBent (o__law_bent T 3) (by decide) m_wf (o__law_is_circuit T) (by decide) hr) r_no_circuit
theorem o__law_no_filling {P : Program} {wd : World} {K : PySem.W.Frag} {mg : Str → Option Value} {base : Heap} {a : Adr} (T : Tx K mg a) : FnOk P wd K mg base CX0 3 a.f__law_no_filling a.fd__law_no_filling ["deck", "m", "is_beginning"] (spD K 3 cNoF) := ok_def T.D__law_no_filling.fu S__law_no_filling rfl (b__law_no_filling cPick) (fun cdv A outer s H E F hr => d__law_no_filling T m_cPick (o__law_pick T) (by decide) hr) r_no_filling
end K66
set_option maxRecDepth 100000
set_option maxHeartbeats 4000000
namespace K66
open PySem PySem.Spec L2 DL DR LamX
def N__law_heard : List Str := ["call", "e"]
theorem S__law_heard : FnScope N__law_heard ["call"] (defScope s__law_heard) := ⟨rfl, rfl, rfl, by decide +kernel, rfl, by decide +kernel, by decide +kernel⟩
/-- what the heard errors' classes must say -/
structure Hx (K : PySem.W.Frag) (mg : Str → Option Value) (a : Adr) : Prop where
  e1 : ErrC K a.C_BadCircuit "thing"
  e2 : ErrC K a.C_BadFilling "thing"
  p : mg "PlayError" = some (.ref a.C_PlayError)
  k1 : PySem.W.kitOne K (.ref a.C_BadCircuit) (.ref a.C_PlayError) = some true
  k2 : PySem.W.kitOne K (.ref a.C_BadFilling) (.ref a.C_PlayError) = some true
  ap : Apart K (clsK a.C_BadCircuit a.C_BadFilling)
  ne : a.C_BadCircuit ≠ a.C_BadFilling
  bi : mg "isinstance" = none
theorem heardM {P : Program} {wd : World} {K : PySem.W.Frag} {mg : Str → Option Value} {base : Heap} {a : Adr} (T : Tx K mg a) (Z : Hx K mg a) {cdv : Value} {c Pt : Addr} {A : Around} {outer : List Env} {s : Shared} {H : Hp} {E : XK} {kl : Nat}
    (hgd : A.guards = some []) (hcd : cdv = .ref c) (TB : TabB base mg c Pt) (hr : Room (kl + 2) (A.deeper (PyProof.Rows.envOfC "law" (defScope s_law) s.heap.objs.size a.f_law cdv))) :
    LamTo (cxOf CX0 P wd K mg base N_law "law" (defScope s_law) a.f_law cdv A outer s H E).nox [(Pt, (cxOf CX0 P wd K mg base N_law "law" (defScope s_law) a.f_law cdv A outer s H E).nox.env.qual ++ "<lambda>")] "_law_heard" "call" kl (TTa K "thing" (clsK a.C_BadCircuit a.C_BadFilling) (List.map V.str ["told"])) where
  hg := by rfl
  hdb := by decide
  hd := by decide
  hcd := by decide
  callee := by
    obtain ⟨⟨oc, od, kV, doc, pm, an, cdv', ct, osl, e, l, cc⟩, kp⟩ := T.D__law_heard.fu
    have bi := T.D__law_heard.bi
    rw [e] at l bi
    refine ⟨a.f__law_heard, _, _, _, _, _, _, _, _, _, _, _, _, _, N__law_heard, T.D__law_heard.mgf, kp, l, cc, bi, S__law_heard, rfl, .inl rfl, ?_⟩
    have hu : A.units + 3 + 3 + 65 < cLine := by have h1 := hr.un; have h2 : (A.deeper (PyProof.Rows.envOfC "law" (defScope s_law) s.heap.objs.size a.f_law cdv)).units = A.units + 3 := rfl; omega
    refine gives_a (i := 1) S__law_heard.nd (fun _ => rfl) Z.ap (fun s' H' => ?_) (fun s' H' => pa_cons pe_str pa_nil)
    refine .cons ⟨by rfl, by decide, .inl T.X_BadCircuit.gC⟩ rfl rfl (fun a' oe cls d pn hz hf => suite_ok _ (by show 3 ≤ 64; decide) fun dd v r =>
        its_cons it_str (its_cons (it_rep Z.e1 hz hf rfl (.inl rfl) (by decide) (by decide) hgd hu (by rfl) T.b_repr (by rfl) (by rfl) (by rfl)) (its_cons (it_isi Z.e1 hz hf rfl (.inl rfl) (by decide) (by decide) Z.k1 (by rfl) Z.bi (by rfl) Z.p (by decide) (by rfl) (by rfl) (by rfl)) its_nil)))
      (.cons ⟨by rfl, by decide, .inl T.X_BadFilling.gC⟩ rfl rfl (fun a' oe cls d pn hz hf => suite_ok _ (by show 3 ≤ 64; decide) fun dd v r =>
        its_cons it_str (its_cons (it_rep Z.e2 hz hf rfl (.inl rfl) (by decide) (by decide) hgd hu (by rfl) T.b_repr (by rfl) (by rfl) (by rfl)) (its_cons (it_isi Z.e2 hz hf rfl (.inl rfl) (by decide) (by decide) Z.k2 (by rfl) Z.bi (by rfl) Z.p (by decide) (by rfl) (by rfl) (by rfl)) its_nil))) .nil)
  tab := ⟨c, Pt, TB, hcd, List.mem_singleton.mpr rfl, fun p hp _ => by rw [List.mem_singleton.mp hp]⟩
  hr := hr
end K66
set_option maxRecDepth 100000
set_option maxHeartbeats 8000000
namespace K66
open PySem PySem.Spec L2 DL DR
theorem S_law : FnScope N_law ["script"] (defScope s_law) := ⟨rfl, rfl, rfl, by decide +kernel, rfl, by decide +kernel, by decide +kernel⟩
theorem d_law {P : Program} {wd : World} {K : PySem.W.Frag} {mg : Str → Option Value} {base : Heap} {a : Adr} (T : Tx K mg a) {k : Nat} {k__law_fillings : Nat} {k_many_true : Nat} {k_circuit_value : Nat} {k_circuit_after : Nat} {k__law_no_filling : Nat} {k__law_no_circuit : Nat} {k__law_same : Nat} {k__law_value : Nat} {k__law_draw : Nat} {k__law_row : Nat} {k__law_pick : Nat} {k__law_drawn_circuit : Nat} {w__law_drawn_circuit : WF} (m__law_drawn_circuit : MonoF w__law_drawn_circuit) (o__law_drawn_circuit : FnOk P wd K mg base CX0 k__law_drawn_circuit a.f__law_drawn_circuit a.fd__law_drawn_circuit ["deck", "m", "many"] (spD K 3 w__law_drawn_circuit)) (l__law_drawn_circuit : k__law_drawn_circuit ≤ k) {w__law_pick : WF} (m__law_pick : MonoF w__law_pick) (o__law_pick : FnOk P wd K mg base CX0 k__law_pick a.f__law_pick a.fd__law_pick ["deck", "some"] (spD K 2 w__law_pick)) (l__law_pick : k__law_pick ≤ k) {w__law_row : WF} (m__law_row : MonoF w__law_row) (o__law_row : FnOk P wd K mg base CX0 k__law_row a.f__law_row a.fd__law_row ["circuit"] (spD K 1 w__law_row)) (l__law_row : k__law_row ≤ k) {w__law_draw : WF} (m__law_draw : MonoF w__law_draw) (o__law_draw : FnOk P wd K mg base CX0 k__law_draw a.f__law_draw a.fd__law_draw ["deck", "many"] (spD K 2 w__law_draw)) (l__law_draw : k__law_draw ≤ k) {w__law_value : WF} (m__law_value : MonoF w__law_value) (o__law_value : FnOk P wd K mg base CX0 k__law_value a.f__law_value a.fd__law_value ["prefix", "row"] (spD K 2 w__law_value)) (l__law_value : k__law_value ≤ k) {w__law_same : WF} (m__law_same : MonoF w__law_same) (o__law_same : FnOk P wd K mg base CX0 k__law_same a.f__law_same a.fd__law_same ["told", "due"] (spD K 2 w__law_same)) (l__law_same : k__law_same ≤ k) {w__law_no_circuit : WF} (m__law_no_circuit : MonoF w__law_no_circuit) (o__law_no_circuit : FnOk P wd K mg base CX0 k__law_no_circuit a.f__law_no_circuit a.fd__law_no_circuit ["deck", "circuit"] (spD K 2 w__law_no_circuit)) (l__law_no_circuit : k__law_no_circuit ≤ k) {w__law_no_filling : WF} (m__law_no_filling : MonoF w__law_no_filling) (o__law_no_filling : FnOk P wd K mg base CX0 k__law_no_filling a.f__law_no_filling a.fd__law_no_filling ["deck", "m", "is_beginning"] (spD K 3 w__law_no_filling)) (l__law_no_filling : k__law_no_filling ≤ k) {w_circuit_after : WF} (m_circuit_after : MonoF w_circuit_after) (o_circuit_after : FnOk P wd K mg base (L2.CX P wd) k_circuit_after a.f_circuit_after a.fd_circuit_after ["circuit", "filling"] (spD K 2 w_circuit_after)) (l_circuit_after : k_circuit_after ≤ k) {w_circuit_value : WF} (m_circuit_value : MonoF w_circuit_value) (o_circuit_value : FnOk P wd K mg base (L2.CX P wd) k_circuit_value a.f_circuit_value a.fd_circuit_value ["circuit"] (spD K 1 w_circuit_value)) (l_circuit_value : k_circuit_value ≤ k) {w_many_true : WF} (m_many_true : MonoF w_many_true) (o_many_true : FnOk P wd K mg base (L2.CX P wd) k_many_true a.f_many_true a.fd_many_true ["circuit"] (spD K 1 w_many_true)) (l_many_true : k_many_true ≤ k) {w__law_fillings : WF} (m__law_fillings : MonoF w__law_fillings) (o__law_fillings : FnOk P wd K mg base CX0 k__law_fillings a.f__law_fillings a.fd__law_fillings ["m"] (spD K 1 w__law_fillings)) (l__law_fillings : k__law_fillings ≤ k) {cdv : Value} {A : Around} {outer : List Env} {s : Shared} {H : Hp} {E : XK} {F : Fx} (hr : Room (k + 2) (A.deeper (PyProof.Rows.envOfC "law" (defScope s_law) s.heap.objs.size a.f_law cdv))) (hgd : A.guards = some []) {kk : DKi} (hk : F.dk = some kk) {CLS : List Cl} (M : LamTo (cxOf CX0 P wd K mg base N_law "law" (defScope s_law) a.f_law cdv A outer s H E).nox kk.T "_law_heard" "call" k (TTa K "thing" CLS (List.map V.str ["told"]))) :
    SSs (cxOf CX0 P wd K mg base N_law "law" (defScope s_law) a.f_law cdv A outer s H E).nox F ((defBody s_law).tail) (b_law w__law_drawn_circuit w__law_pick w__law_row w__law_draw w__law_value w__law_same w__law_no_circuit w__law_no_filling w_circuit_after w_circuit_value w_many_true w__law_fillings CLS) := by
  have hN := S_law.nd
  exact (by exact (sss_cons (by exact (ss_for PassesOwn.never rfl (by exact (si_range1 (by rfl) (by exact T.b_range) (by exact se_int))) (by exact (sg_name (i := 2) hN rfl (by first | exact Or.inl rfl | exact Or.inr rfl))) (by exact (sss_cons (by exact (ss_set (i := 3) hN rfl (by first | exact Or.inl rfl | exact Or.inr rfl) (by exact (SE.v (by exact (se_if (by exact (st_cmp (op_eqQ hr.units) op2_eq (by exact (se_callN m__law_draw o__law_draw (hr.mono (Nat.le_add_right_of_le l__law_draw)) (by rfl) T.D__law_draw.mgf T.D__law_draw.fu.kp T.D__law_draw.bi pass0 (by exact (sp_k (pv 1) (sp_d (by exact se_int) sp_nil))))) (by exact se_int) (nomark _))) (by exact se_int) (by exact (se_callN m__law_pick o__law_pick (hr.mono (Nat.le_add_right_of_le l__law_pick)) (by rfl) T.D__law_pick.mgf T.D__law_pick.fu.kp T.D__law_pick.bi pass0 (by exact (sp_k (pv 1) (sp_d (by exact (SEL.se (by exact (sl_lst (by exact (sa_cons (by exact se_int) (sa_cons (by exact se_int) (sa_cons (by exact se_int) (sa_cons (by exact se_int) (sa_cons (by exact se_int) (sa_cons (by exact se_int) (sa_cons (by exact se_int) sa_nil)))))))))))) sp_nil))))))))))) (sss_cons (by exact (ss_set (i := 4) hN rfl (by first | exact Or.inl rfl | exact Or.inr rfl) (by exact (SE.v (by exact (se_callN m__law_drawn_circuit o__law_drawn_circuit (hr.mono (Nat.le_add_right_of_le l__law_drawn_circuit)) (by rfl) T.D__law_drawn_circuit.mgf T.D__law_drawn_circuit.fu.kp T.D__law_drawn_circuit.bi pass0 (by exact (sp_k (pv 1) (sp_d (by exact (se_var (pv 3))) (sp_d (by exact (se_callN m__law_pick o__law_pick (hr.mono (Nat.le_add_right_of_le l__law_pick)) (by rfl) T.D__law_pick.mgf T.D__law_pick.fu.kp T.D__law_pick.bi pass0 (by exact (sp_k (pv 1) (sp_d (by exact (SEL.se (by exact (sl_lst (by exact (sa_cons (by exact se_int) (sa_cons (by exact se_int) (sa_cons (by exact se_int) (sa_cons (by exact se_int) sa_nil))))))))) sp_nil))))) sp_nil)))))))))) (sss_cons (by exact (ss_par (i := 5) (j := 6) rfl hN rfl rfl (by decide) rfl rfl (svs_cons (by exact (SE.v (by exact (se_callB (call_reprQ hgd (room65 hr)) cl_repr (by rfl) (by exact T.b_repr) (by decide +kernel) (by exact (sa_cons (by exact (se_var (pv 4))) sa_nil)))))) (svs_cons (by exact (SE.v (by exact (se_callN m__law_row o__law_row (hr.mono (Nat.le_add_right_of_le l__law_row)) (by rfl) T.D__law_row.mgf T.D__law_row.fu.kp T.D__law_row.bi pass0 (by exact (sp_d (by exact (se_var (pv 4))) sp_nil)))))) svs_nil)) rfl)) (sss_cons (by exact (ss_for PassesOwn.never rfl (by exact (si_range1 (by rfl) (by exact T.b_range) (by exact se_int))) (by exact (sg_name (i := 7) hN rfl (by first | exact Or.inl rfl | exact Or.inr rfl))) (by exact (sss_cons (by exact (ss_set (i := 15) hN rfl (by first | exact Or.inl rfl | exact Or.inr rfl) (by exact (SE.v (by exact (se_callN m__law_draw o__law_draw (hr.mono (Nat.le_add_right_of_le l__law_draw)) (by rfl) T.D__law_draw.mgf T.D__law_draw.fu.kp T.D__law_draw.bi pass0 (by exact (sp_k (pv 1) (sp_d (by exact (se_op op_addD op2_add (by exact (se_var (pv 3))) (by exact se_int))) sp_nil))))))))) (sss_cons (by exact (ss_set (i := 16) hN rfl (by first | exact Or.inl rfl | exact Or.inr rfl) (by exact (SE.v (by exact (se_mt PySem.F.slot_str_join PySem.F.type_str_join mt_join mt_joinD (by exact se_str) (by exact (sa_cons (by exact (SEL.se (by exact (sl_lc (own := [("k", 19)]) rfl hN (by exact (si_range1 (by rfl) (by exact T.b_range) (by exact (se_var (pv 15))))) (blkOk_by (N := N_law) (sc := defScope s_law) (own := [("k", 19)]) (by decide +kernel)) (fun _ _ _ _ _ => (by exact (sg_name (i := 19) hN rfl (by first | exact Or.inl rfl | exact Or.inr rfl) (Or.inr rfl)))) (fun _ _ _ _ _ => sts_nil) (fun _ _ _ _ _ => (by exact (se_callN m__law_pick o__law_pick (hr.mono (Nat.le_add_right_of_le l__law_pick)) (by rfl) T.D__law_pick.mgf T.D__law_pick.fu.kp T.D__law_pick.bi pass0 (by exact (sp_k (pv 1) (sp_d (by exact (SEL.se (by exact (sl_lst (by exact (sa_cons (by exact se_str) (sa_cons (by exact se_str) sa_nil))))))) sp_nil)))))) (by decide))))) sa_nil)))))))) (sss_cons (by exact (ss_par (i := 17) (j := 18) rfl hN rfl rfl (by decide) rfl rfl (svs_cons (by exact (SE.v (by exact (se_index (by exact (se_callN m__law_fillings o__law_fillings (hr.mono (Nat.le_add_right_of_le l__law_fillings)) (by rfl) T.D__law_fillings.mgf T.D__law_fillings.fu.kp T.D__law_fillings.bi pass0 (by exact (sp_d (by exact (se_var (pv 15))) sp_nil)))) (by exact (se_var (pv 16))))))) (svs_cons (by exact (SE.v (by exact se_int))) svs_nil)) rfl)) (sss_cons (by exact (ss_for PassesOwn.never rfl (by exact (si_range1 (by rfl) (by exact T.b_range) (by exact (se_op op_sub op2_sub (by exact (se_var (pv 3))) (by exact (se_var (pv 15))))))) (by exact (sg_name (i := 19) hN rfl (by first | exact Or.inl rfl | exact Or.inr rfl))) (by exact (sss_one (by exact (ss_set (i := 18) hN rfl (by first | exact Or.inl rfl | exact Or.inr rfl) (by exact (SE.v (by exact (se_op op_mulQ op2_mulQ (by exact (se_var (pv 18))) (by exact se_int))))))))))) (sss_cons (by exact (ss_set (i := 8) hN rfl (by first | exact Or.inl rfl | exact Or.inr rfl) (by exact (SE.v (by exact (se_callN m__law_value o__law_value (hr.mono (Nat.le_add_right_of_le l__law_value)) (by rfl) T.D__law_value.mgf T.D__law_value.fu.kp T.D__law_value.bi pass0 (by exact (sp_d (by exact (se_sl (by exact (se_ix (by exact (se_var (pv 4))) (by exact se_int))) (by exact (so_some (by exact (se_var (pv 15))))) (by exact so_none))) (sp_d (by exact (se_sl (by exact (se_var (pv 6))) (by exact (so_some (by exact (se_op op_mulQ op2_mulQ (by exact (se_var (pv 17))) (by exact (se_var (pv 18))))))) (by exact (so_some (by exact (se_op op_addD op2_add (by exact (se_op op_mulQ op2_mulQ (by exact (se_var (pv 17))) (by exact (se_var (pv 18))))) (by exact (se_var (pv 18))))))))) sp_nil))))))))) (sss_cons (by exact (ss_set (i := 13) hN rfl (by first | exact Or.inl rfl | exact Or.inr rfl) (by exact (SEL.v (by exact (sl_lst (by exact (sa_cons (by exact (se_callN m_circuit_after o_circuit_after (hr.mono (Nat.le_add_right_of_le l_circuit_after)) (by rfl) T.D_circuit_after.mgf T.D_circuit_after.fu.kp T.D_circuit_after.bi passL (by exact (sp_d (by exact (se_var (pv 4))) (sp_d (by exact (se_var (pv 16))) sp_nil))))) (sa_cons (by exact (se_callNKw (ks := ["filling", "circuit"]) (g := @g_1_0) m_circuit_after o_circuit_after (hr.mono (Nat.le_add_right_of_le l_circuit_after)) (by rfl) T.D_circuit_after.mgf T.D_circuit_after.fu.kp (T.kw_circuit_after_filling_circuit) passL (sk_d (by exact (se_var (pv 16))) (sk_d (by exact (se_var (pv 4))) sk_nil)))) sa_nil))))))))) (sss_one (by exact (ss_if (st_bor 13 (by exact (st_not (by exact (st_val (by exact (se_callN m__law_same o__law_same (hr.mono (Nat.le_add_right_of_le l__law_same)) (by rfl) T.D__law_same.mgf T.D__law_same.fu.kp T.D__law_same.bi pass0 (by exact (sp_d (by exact (se_var (pv 13))) (sp_d (by exact (SEL.se (by exact (sl_lst (by exact (sa_cons (by exact (se_var (pv 8))) (sa_cons (by exact (se_var (pv 8))) sa_nil))))))) sp_nil)))))))))) (by exact (sss_one (by exact (ss_ret (by exact se_bl))))) (by exact sss_nil))))))))))))) (sss_cons (by exact (ss_par (i := 8) (j := 9) rfl hN rfl rfl (by decide) rfl rfl (svs_cons (by exact (SE.v (by exact (se_callN m__law_value o__law_value (hr.mono (Nat.le_add_right_of_le l__law_value)) (by rfl) T.D__law_value.mgf T.D__law_value.fu.kp T.D__law_value.bi pass0 (by exact (sp_d (by exact (se_ix (by exact (se_var (pv 4))) (by exact se_int))) (sp_d (by exact (se_var (pv 6))) sp_nil))))))) (svs_cons (by exact (SE.v (by exact (se_callB call_lenQ cl_len (by rfl) (by exact T.b_len) (by decide +kernel) (by exact (sa_cons (by exact (SEL.se (by exact (sl_lc (own := [("it", 20)]) rfl hN (by exact (si_list (by exact (se_var (pv 6))))) (blkOk_by (N := N_law) (sc := defScope s_law) (own := [("it", 20)]) (by decide +kernel)) (fun _ _ _ _ _ => (by exact (sg_name (i := 20) hN rfl (by first | exact Or.inl rfl | exact Or.inr rfl) (Or.inr rfl)))) (fun _ _ _ _ _ => (sts_one (by exact (st_val (by exact (se_var (pv 20))))))) (fun _ _ _ _ _ => (by exact se_int)) (by decide))))) sa_nil)))))) svs_nil)) rfl)) (sss_cons (by exact (ss_if (by exact (st_not (by exact (st_val (by exact (se_callN m__law_same o__law_same (hr.mono (Nat.le_add_right_of_le l__law_same)) (by rfl) T.D__law_same.mgf T.D__law_same.fu.kp T.D__law_same.bi pass0 (by exact (sp_d (by exact (SEL.se (by exact (sl_lst (by exact (sa_cons (by exact (se_callN m_circuit_value o_circuit_value (hr.mono (Nat.le_add_right_of_le l_circuit_value)) (by rfl) T.D_circuit_value.mgf T.D_circuit_value.fu.kp T.D_circuit_value.bi passL (by exact (sp_d (by exact (se_var (pv 4))) sp_nil)))) (sa_cons (by exact (se_callNKw (ks := ["circuit"]) (g := @g_0) m_circuit_value o_circuit_value (hr.mono (Nat.le_add_right_of_le l_circuit_value)) (by rfl) T.D_circuit_value.mgf T.D_circuit_value.fu.kp (T.kw_circuit_value_circuit) passL (sk_d (by exact (se_var (pv 4))) sk_nil))) (sa_cons (by exact (se_callN m_many_true o_many_true (hr.mono (Nat.le_add_right_of_le l_many_true)) (by rfl) T.D_many_true.mgf T.D_many_true.fu.kp T.D_many_true.bi passL (by exact (sp_d (by exact (se_var (pv 4))) sp_nil)))) (sa_cons (by exact (se_callNKw (ks := ["circuit"]) (g := @g_0) m_many_true o_many_true (hr.mono (Nat.le_add_right_of_le l_many_true)) (by rfl) T.D_many_true.mgf T.D_many_true.fu.kp (T.kw_many_true_circuit) passL (sk_d (by exact (se_var (pv 4))) sk_nil))) sa_nil))))))))) (sp_d (by exact (SEL.se (by exact (sl_lst (by exact (sa_cons (by exact (se_var (pv 8))) (sa_cons (by exact (se_var (pv 8))) (sa_cons (by exact (se_var (pv 9))) (sa_cons (by exact (se_var (pv 9))) sa_nil))))))))) sp_nil))))))))) (by exact (sss_one (by exact (ss_ret (by exact se_bl))))) (by exact sss_nil))) (sss_cons (by exact (ss_set (i := 10) hN rfl (by first | exact Or.inl rfl | exact Or.inr rfl) (by exact (SE.v (by exact (se_tup (by exact (sa_cons (by exact (se_mt PySem.F.slot_str_join PySem.F.type_str_join mt_join mt_joinD (by exact se_str) (by exact (sa_cons (by exact (SEL.se (by exact (sl_lc (own := [("letter", 21)]) rfl hN (by exact (si_str (by exact (se_ix (by exact (se_var (pv 4))) (by exact se_int))))) (blkOk_by (N := N_law) (sc := defScope s_law) (own := [("letter", 21)]) (by decide +kernel)) (fun _ _ _ _ _ => (by exact (sg_name (i := 21) hN rfl (by first | exact Or.inl rfl | exact Or.inr rfl) (Or.inr rfl)))) (fun _ _ _ _ _ => sts_nil) (fun _ _ _ _ _ => (by exact (se_if (by exact (st_cmp (op_eqQ hr.units) op2_eq (by exact (se_var (pv 21))) (by exact se_str) (nomark _))) (by exact se_str) (by exact se_str)))) (by decide))))) sa_nil)))) (sa_cons (by exact (se_op op_addD op2_add (by exact (se_ix (by exact (se_var (pv 4))) (by exact se_int))) (by exact (se_tup (by exact (sa_cons (by exact (se_tup (by exact (sa_cons (by exact se_str) (sa_cons (by exact (se_op op_sub op2_sub (by exact (se_callB call_lenQ cl_len (by rfl) (by exact T.b_len) (by decide +kernel) (by exact (sa_cons (by exact (se_ix (by exact (se_var (pv 4))) (by exact se_int))) sa_nil)))) (by exact se_int))) sa_nil))))) sa_nil)))))) sa_nil))))))))) (sss_cons (by exact (ss_if (by exact (st_not (by exact (st_val (by exact (se_callN m__law_same o__law_same (hr.mono (Nat.le_add_right_of_le l__law_same)) (by rfl) T.D__law_same.mgf T.D__law_same.fu.kp T.D__law_same.bi pass0 (by exact (sp_d (by exact (SEL.se (by exact (sl_lst (by exact (sa_cons (by exact (se_callN m_circuit_value o_circuit_value (hr.mono (Nat.le_add_right_of_le l_circuit_value)) (by rfl) T.D_circuit_value.mgf T.D_circuit_value.fu.kp T.D_circuit_value.bi passL (by exact (sp_d (by exact (se_var (pv 10))) sp_nil)))) (sa_cons (by exact (se_callN m_many_true o_many_true (hr.mono (Nat.le_add_right_of_le l_many_true)) (by rfl) T.D_many_true.mgf T.D_many_true.fu.kp T.D_many_true.bi passL (by exact (sp_d (by exact (se_var (pv 10))) sp_nil)))) sa_nil))))))) (sp_d (by exact (SEL.se (by exact (sl_lst (by exact (sa_cons (by exact (se_not (by exact (se_var (pv 8))))) (sa_cons (by exact (se_op op_sub op2_sub (by exact (se_callB call_lenQ cl_len (by rfl) (by exact T.b_len) (by decide +kernel) (by exact (sa_cons (by exact (se_var (pv 6))) sa_nil)))) (by exact (se_var (pv 9))))) sa_nil))))))) sp_nil))))))))) (by exact (sss_one (by exact (ss_ret (by exact se_bl))))) (by exact sss_nil))) (sss_cons (by exact (ss_asg (by exact (sg_tup rfl (sgs_cons (by exact (sg_name (i := 11) hN rfl (by first | exact Or.inl rfl | exact Or.inr rfl))) (sgs_cons (by exact (sg_name (i := 12) hN rfl (by first | exact Or.inl rfl | exact Or.inr rfl))) sgs_nil)))) (by exact (se_tup (by exact (sa_cons (by exact (se_callN m__law_no_circuit o__law_no_circuit (hr.mono (Nat.le_add_right_of_le l__law_no_circuit)) (by rfl) T.D__law_no_circuit.mgf T.D__law_no_circuit.fu.kp T.D__law_no_circuit.bi pass0 (by exact (sp_k (pv 1) (sp_d (by exact (se_var (pv 4))) sp_nil))))) (sa_cons (by exact (se_callN m__law_no_filling o__law_no_filling (hr.mono (Nat.le_add_right_of_le l__law_no_filling)) (by rfl) T.D__law_no_filling.mgf T.D__law_no_filling.fu.kp T.D__law_no_filling.bi pass0 (by exact (sp_k (pv 1) (sp_d (by exact (se_var (pv 3))) (sp_d (by exact se_bl) sp_nil)))))) sa_nil))))))) (sss_cons (by exact (ss_set (i := 13) hN rfl (by first | exact Or.inl rfl | exact Or.inr rfl) (by exact (SEL.v (by exact (sl_lst (by exact (sa_cons (by exact (se_heard hk (monoX_call m_circuit_after (wLen_mono (pD_mono wVar_mono (pD_mono wVar_mono pNil_mono)))) M (LamX.lamS_by (sc := defScope s_law) (by decide +kernel)) rfl (fun _ _ _ _ _ => rfl) (fun A outer s H E f c F' hrL => by show SE _ _ _ (wCall w_circuit_after (wLen 2 (pD (wVar 11) (pD (wVar 12) pNil))) (exD K F' E)); exact (by exact (se_call m_circuit_after o_circuit_after (hrL.mono l_circuit_after) (by rfl) T.D_circuit_after.mgf T.D_circuit_after.fu.kp T.D_circuit_after.bi (passes_call (takes_of rfl rfl rfl rfl) fun _ _ _ _ h => h) (by exact (sp_d (by exact (se_var (pv 11))) (sp_d (by exact (se_var (pv 12))) sp_nil)))))))) sa_nil)))))))) (sss_cons (by exact (ss_app (pv 13) (by exact (se_heard hk (monoX_call m_circuit_after (wLen_mono (wPerm_mono (wLen_mono (pD_mono wVar_mono (pD_mono wVar_mono pNil_mono)))))) M (LamX.lamS_by (sc := defScope s_law) (by decide +kernel)) rfl (fun _ _ _ _ _ => rfl) (fun A outer s H E f c F' hrL => by show SE _ _ _ (wCall w_circuit_after (wLen 2 (wPerm g_1_0 (wLen 2 (pD (wVar 12) (pD (wVar 4) pNil))))) (exD K F' E)); exact (by exact (se_callKw (ks := ["filling", "circuit"]) (g := @g_1_0) m_circuit_after o_circuit_after (hrL.mono l_circuit_after) (by rfl) T.D_circuit_after.mgf T.D_circuit_after.fu.kp (T.kw_circuit_after_filling_circuit) (passes_call (takes_of rfl rfl rfl rfl) fun _ _ _ _ h => h) (sk_d (by exact (se_var (pv 12))) (sk_d (by exact (se_var (pv 4))) sk_nil))))))))) (sss_cons (by exact (ss_app (pv 13) (by exact (se_heard hk (monoX_call m_circuit_value (wLen_mono (wPerm_mono (wLen_mono (pD_mono wVar_mono pNil_mono))))) M (LamX.lamS_by (sc := defScope s_law) (by decide +kernel)) rfl (fun _ _ _ _ _ => rfl) (fun A outer s H E f c F' hrL => by show SE _ _ _ (wCall w_circuit_value (wLen 1 (wPerm g_0 (wLen 1 (pD (wVar 11) pNil)))) (exD K F' E)); exact (by exact (se_callKw (ks := ["circuit"]) (g := @g_0) m_circuit_value o_circuit_value (hrL.mono l_circuit_value) (by rfl) T.D_circuit_value.mgf T.D_circuit_value.fu.kp (T.kw_circuit_value_circuit) (passes_call (takes_of rfl rfl rfl rfl) fun _ _ _ _ h => h) (sk_d (by exact (se_var (pv 11))) sk_nil)))))))) (sss_cons (by exact (ss_app (pv 13) (by exact (se_heard hk (monoX_call m_many_true (wLen_mono (pD_mono wVar_mono pNil_mono))) M (LamX.lamS_by (sc := defScope s_law) (by decide +kernel)) rfl (fun _ _ _ _ _ => rfl) (fun A outer s H E f c F' hrL => by show SE _ _ _ (wCall w_many_true (wLen 1 (pD (wVar 11) pNil)) (exD K F' E)); exact (by exact (se_call m_many_true o_many_true (hrL.mono l_many_true) (by rfl) T.D_many_true.mgf T.D_many_true.fu.kp T.D_many_true.bi (passes_call (takes_of rfl rfl rfl rfl) fun _ _ _ _ h => h) (by exact (sp_d (by exact (se_var (pv 11))) sp_nil))))))))) (sss_cons (by exact (ss_set (i := 14) hN rfl (by first | exact Or.inl rfl | exact Or.inr rfl) (by exact (SE.v (by exact (se_tup (by exact (sa_cons (by exact se_str) (sa_cons (by exact (se_callB (call_reprQ hgd (room65 hr)) cl_repr (by rfl) (by exact T.b_repr) (by decide +kernel) (by exact (sa_cons (by exact (se_var (pv 11))) sa_nil)))) (sa_cons (by exact se_bl) sa_nil)))))))))) (sss_one (by exact (ss_if (st_bor 13 (by exact (SW.st (sw_or (by exact (st_cmp (op_neQ hr.units) op2_ne (by exact (se_var (pv 13))) (by exact (SEL.se (by exact (sl_lst (by exact (sa_cons (by exact (se_var (pv 14))) (sa_cons (by exact (se_tup (by exact (sa_cons (by exact se_str) (sa_cons (by exact (se_callB (call_reprQ hgd (room65 hr)) cl_repr (by rfl) (by exact T.b_repr) (by decide +kernel) (by exact (sa_cons (by exact (se_var (pv 12))) sa_nil)))) (sa_cons (by exact se_bl) sa_nil)))))) (sa_cons (by exact (se_var (pv 14))) (sa_cons (by exact (se_var (pv 14))) sa_nil))))))))) (nomark _))) (sw_or1 (by exact (st_cmp (op_neQ hr.units) op2_ne (by exact (se_callB (call_reprQ hgd (room65 hr)) cl_repr (by rfl) (by exact T.b_repr) (by decide +kernel) (by exact (sa_cons (by exact (se_var (pv 4))) sa_nil)))) (by exact (se_var (pv 5))) (nomark _)))))))) (by exact (sss_one (by exact (ss_ret (by exact se_bl))))) (by exact sss_nil))))))))))))))))))))) (sss_one (by exact (ss_ret (by exact se_bl))))))
end K66
set_option maxRecDepth 100000
set_option maxHeartbeats 4000000
namespace K66
open PySem PySem.Spec L2 DL DR LamX
/-- behind the deck's making nothing is data yet -/
theorem deck_dk {H H' : Hp} {p l Pt : Addr} {m t : Int} {cells : List Int} {q : Str} (n : DeckNew H H' p l m t cells) (hP : H Pt = some (.tbl #[])) (only : ∀ b ps, H b = some (.tbl ps) → b = Pt) : DkOk (some ⟨p, l, [(Pt, q)]⟩) H' fun _ => none := by
  intro k e
  cases e
  refine ⟨n.ne, ⟨cells, m, t, n.at_, n.cl, n.few⟩, rfl, rfl, fun r hr => ?_, (fun b ps e => nomatch e), fun b ps e => ⟨q, ?_⟩⟩
  · rw [List.mem_singleton.mp hr]
    exact TabS.nil (n.old _ _ hP)
  · rw [only b ps (n.nt b ps e)]; exact List.mem_singleton.mpr rfl
theorem run_law {P : Program} {wd : World} {K : PySem.W.Frag} {mg : Str → Option Value} {a : Adr} (T : Tx K mg a) (Z : Hx K mg a) {c Pt sc : Addr} {ns : List Int} {s : Shared} {oc : Value} {od an : Option Addr} {osl : Array (Option Value)} {kV doc pm ct : Value}
    (ll : K.lookup a.f_law = some ⟨oc, od, .func (PySem.W.fnOf "law" "law" (defArgs s_law) (defBody s_law) (defScope s_law) .none kV doc pm an (.ref c) ct), osl⟩) (lc : PySem.W.codeIn K (.ref c) "law" = true)
    (hl : ns.length ≤ 63) : LawRun P wd K mg a.f_law sc c Pt ns s := by
  intro base H inK glob TB hP only sq e0
  have room : Room 20 PySem.callerA := ⟨rfl, by decide, by decide⟩
  refine run_ofS (k := 19) (N := N_law) (ps := ["script"]) (us := [.ref sc]) (vs := [.ref sc]) ll lc S_law room e0 (.of_eq rfl) (.cons rfl .nil) rfl fun hr => ?_
  have rest : ∀ F : Fx, F.dk.isSome = true → (∀ kk, F.dk = some kk → kk.T = [(Pt, (cxOf CX0 P wd K mg base N_law "law" (defScope s_law) a.f_law (.ref c) PySem.callerA [] s H E0).nox.env.qual ++ "<lambda>")]) →
      SSs (cxOf CX0 P wd K mg base N_law "law" (defScope s_law) a.f_law (.ref c) PySem.callerA [] s H E0).nox F (defBody s_law).tail (b_law cDrawn cPick (wf f__law_row) cD (wf f__law_value) (wf f__law_same) cNoC cNoF (rf (x_after a.C_BadCircuit a.C_BadFilling)) (rf (x_value a.C_BadCircuit)) (rf (x_many a.C_BadCircuit)) (wf f__law_fillings) (clsK a.C_BadCircuit a.C_BadFilling)) := by
    intro F hF hT
    obtain ⟨kk, hk⟩ := Option.isSome_iff_exists.mp hF
    have M := heardM (P := P) (wd := wd) (base := base) (outer := []) (s := s) (H := H) (E := E0) T Z (A := PySem.callerA) (kl := 17) rfl rfl TB hr
    rw [← hT kk hk] at M
    exact d_law (k := 17) T m_cDrawn (o__law_drawn_circuit T) (by decide) m_cPick (o__law_pick T) (by decide) m_wf (o__law_row T) (by decide) m_cD (o__law_draw T) (by decide) m_wf (o__law_value T) (by decide) m_wf (o__law_same T) (by decide) m_cNoC (o__law_no_circuit T) (by decide) m_cNoF (o__law_no_filling T) (by decide) m_rf (o_circuit_after T) (by decide) m_rf (o_circuit_value T) (by decide) m_rf (o_many_true T) (by decide) m_wf (o__law_fillings T) (by decide) hr rfl hk M
  refine ⟨_, PSs.nox (pss_cons (ps_set (i := 1) S_law.nd rfl (by first | exact Or.inl rfl | exact Or.inr rfl) (by exact (pe_call (o_deck T) (hr.mono (by decide)) (by rfl) T.D__law_deck.mgf T.D__law_deck.fu.kp T.D__law_deck.bi .nil pass0 (by exact (pa_cons (pv 0) (pa_cons pe_int pa_nil))))))
    (⟨fun pins s' σ H' D I ⟨F, h1, h2, q⟩ => (rest F h1 h2).ps.run pins s' σ H' D I q⟩ : PSs _ (defBody s_law).tail (fun D σ H' => ∃ F : Fx, F.dk.isSome = true ∧ (∀ kk, F.dk = some kk → kk.T = [(Pt, (cxOf CX0 P wd K mg base N_law "law" (defScope s_law) a.f_law (.ref c) PySem.callerA [] s H E0).nox.env.qual ++ "<lambda>")]) ∧ liftS K F _ D σ H'))), ?_⟩
  refine ⟨V.ref sc, rfl, sc, ns, 20130066, rfl, sq, by omega, fun p l m t cells H' dn => ?_⟩
  have dk := deck_dk (q := (cxOf CX0 P wd K mg base N_law "law" (defScope s_law) a.f_law (.ref c) PySem.callerA [] s H E0).nox.env.qual ++ "<lambda>") dn hP only
  have s0 : Same (fun _ => none : Hp) H' := fun b o e => by cases e
  refine ⟨⟨H', fun _ => none, some ⟨p, l, [(Pt, _)]⟩⟩, rfl, fun kk e => by cases e; rfl, [.un, .dk, .un, .un, .un, .un, .un, .un, .un, .un, .un, .un, .un, .un, .un, .un, .un, .un, .un, .un, .un, .un], fun _ => none, fun _ => [], ⟨s0, dk, Grow.refl s0 dk, rfl, ?_, fun i p h => absurd h (by simp), fun i j p h => absurd h (by simp)⟩, ?_⟩
  · intro i t e
    by_cases h1 : i = 1
    · subst h1
      cases e
      exact ⟨rfl, _, rfl, rfl⟩
    · have : t = .un := by
        have hlt := (List.getElem?_eq_some_iff.mp e).1
        simp only [List.length_cons, List.length_nil] at hlt
        match i, h1, e with
        | 0, _, e => cases e; rfl
        | i + 2, _, e =>
          simp only [List.getElem?_cons_succ] at e
          have hm := List.mem_of_getElem? e
          simp only [List.mem_cons, List.not_mem_nil, or_false] at hm
          rcases hm with h | h | h | h | h | h | h | h | h | h | h | h | h | h | h | h | h | h | h | h <;> exact h
      subst this
      exact rfl
  · exact (rest ⟨H', fun _ => none, some ⟨p, l, [(Pt, _)]⟩⟩ rfl fun kk e => by cases e; rfl).mono _ (enD (qD K (some ⟨p, l, [(Pt, _)]⟩) H' (fun _ => none) fun v _ => v = .bl true)) _ ⟨fun ρ h σ H' G' ow R s' => h .non H' G' R.gr .non, fun r h => h, fun _ h => h.elim, fun _ h => h.elim⟩ (law_is Z.ne (Q := qD K _ H' (fun _ => none) fun v _ => v = .bl true) fun v H'' G'' g dq => by cases dq; rfl)
end K66
set_option maxRecDepth 100000
set_option maxHeartbeats 8000000
namespace K66
open PySem PySem.Spec L2 DL DR LamX
theorem cls_some {K : PySem.W.Frag} {C : Addr} (h : PySem.W.hasDictIn K C = true) : (PySem.W.clsIn K C).isSome = true := by
  obtain ⟨cd, e, _⟩ := PySem.W.any_some h
  rw [e]; rfl
theorem kit_of {K : PySem.W.Frag} {C D : Addr} (t : PySem.W.typeIn K (.ref D) = some (.type "type")) (h : PySem.W.hasDictIn K D = true) (s : PySem.W.subIn K (.ref C) (.ref D) = some true) : PySem.W.kitOne K (.ref C) (.ref D) = some true := by
  unfold PySem.W.kitOne
  split
  · rfl
  · show (if ((PySem.W.clsIn K D).isSome && PySem.W.typeIn K (.ref D) == some (.type "type")) = true then PySem.W.subIn K (.ref C) (.ref D) else none) = some true
    rw [cls_some h, t, if_pos (by rfl)]; exact s
theorem tab_in {K : PySem.W.Frag} {x : Str} {f c Pt : Addr} {oc : Value} {od : Option Addr} {sl : Array (Option Value)} {pa : Arguments} {bo : List Stmt} {sc : Scope} {dV kV dc pm ct : Value} {an : Option Addr} {ec : Value} {ddc : Option Addr} {vsc : Array Value} {slc : Array (Option Value)}
    (a : PySem.W.nsIn K mainGlobals x = some (some (.ref f))) (l : K.lookup f = some ⟨oc, od, .func (PySem.W.fnOf x x pa bo sc dV kV dc pm an (.ref c) ct), sl⟩) (lc : K.lookup c = some ⟨ec, ddc, .fields vsc, slc⟩) (l11 : vsc[11]? = some (.ref Pt)) : PySem.W.tabIn K x = some (c, Pt) := by
  unfold PySem.W.tabIn
  rw [a]
  show (match K.lookup f with | some ⟨_, _, .func fd, _⟩ => _ | _ => none) = _
  rw [l]
  show (match K.lookup c with | some ⟨_, _, .fields vs, _⟩ => _ | _ => none) = _
  rw [lc]
  show (match vsc[11]? with | some (.ref P) => some (c, P) | _ => none) = _
  rw [l11]
theorem kwo1_0 {K : PySem.W.Frag} {fd : FuncData} {p : Str} (h : ∀ (s : Shared) (ws : List Value), ws.length = 1 → BindsTo s fd ⟨[], [p].zip ws⟩ ([p].zip (g_0 ws))) : KwO K fd [p] [p] g_0 where
  to := fun s ws _ hl => h s ws hl
  rel := fun {α β R xs ys} r hl => match xs, ys, r, hl with
    | [_], [_], .cons a .nil, _ => .cons a .nil
theorem kwo2_1_0 {K : PySem.W.Frag} {fd : FuncData} {p q : Str} (h : ∀ (s : Shared) (ws : List Value), ws.length = 2 → BindsTo s fd ⟨[], [q, p].zip ws⟩ ([p, q].zip (g_1_0 ws))) : KwO K fd [p, q] [q, p] g_1_0 where
  to := fun s ws _ hl => h s ws hl
  rel := fun {α β R xs ys} r hl => match xs, ys, r, hl with
    | [_, _], [_, _], .cons a (.cons b .nil), _ => .cons b (.cons a .nil)
end K66
set_option maxRecDepth 100000
set_option maxHeartbeats 8000000
namespace K66
open PySem PySem.Spec L2 DL DR LamX
theorem all_mk {PP : Program} {wd : World} {K : PySem.W.Frag} {h : Heap} {mg : Str → Option Value} {fa : Addr} (X : K.In h) (G : h.Ns mainGlobals mg) (hfa : mg "law" = some (.ref fa))
    {f_is_integer : Addr} {od_is_integer an_is_integer : Option Addr} {sl_is_integer : Array (Option Value)} {oc_is_integer kV_is_integer dc_is_integer pm_is_integer ct_is_integer : Value}
    {cd_is_integer : Value}
    (a_is_integer : PySem.W.nsIn K mainGlobals "is_integer" = some (some (.ref f_is_integer)))
    (l_is_integer : K.lookup f_is_integer = some ⟨oc_is_integer, od_is_integer, .func (PySem.W.fnOf "is_integer" "is_integer" (defArgs s_is_integer) (defBody s_is_integer) (defScope s_is_integer) .none kV_is_integer dc_is_integer pm_is_integer an_is_integer cd_is_integer ct_is_integer), sl_is_integer⟩)
    (c_is_integer : PySem.W.codeIn K cd_is_integer "is_integer" = true)
    (k_is_integer : PySem.W.keepIn K (.ref f_is_integer) = true)
    {f_is_from : Addr} {od_is_from an_is_from : Option Addr} {sl_is_from : Array (Option Value)} {oc_is_from kV_is_from dc_is_from pm_is_from ct_is_from : Value}
    {cd_is_from : Value}
    (a_is_from : PySem.W.nsIn K mainGlobals "is_from" = some (some (.ref f_is_from)))
    (l_is_from : K.lookup f_is_from = some ⟨oc_is_from, od_is_from, .func (PySem.W.fnOf "is_from" "is_from" (defArgs s_is_from) (defBody s_is_from) (defScope s_is_from) .none kV_is_from dc_is_from pm_is_from an_is_from cd_is_from ct_is_from), sl_is_from⟩)
    (c_is_from : PySem.W.codeIn K cd_is_from "is_from" = true)
    (k_is_from : PySem.W.keepIn K (.ref f_is_from) = true)
    {f_is_tuple : Addr} {od_is_tuple an_is_tuple : Option Addr} {sl_is_tuple : Array (Option Value)} {oc_is_tuple kV_is_tuple dc_is_tuple pm_is_tuple ct_is_tuple : Value}
    {cd_is_tuple : Value}
    (a_is_tuple : PySem.W.nsIn K mainGlobals "is_tuple" = some (some (.ref f_is_tuple)))
    (l_is_tuple : K.lookup f_is_tuple = some ⟨oc_is_tuple, od_is_tuple, .func (PySem.W.fnOf "is_tuple" "is_tuple" (defArgs s_is_tuple) (defBody s_is_tuple) (defScope s_is_tuple) .none kV_is_tuple dc_is_tuple pm_is_tuple an_is_tuple cd_is_tuple ct_is_tuple), sl_is_tuple⟩)
    (c_is_tuple : PySem.W.codeIn K cd_is_tuple "is_tuple" = true)
    (k_is_tuple : PySem.W.keepIn K (.ref f_is_tuple) = true)
    {f_is_word_of : Addr} {od_is_word_of an_is_word_of : Option Addr} {sl_is_word_of : Array (Option Value)} {oc_is_word_of kV_is_word_of dc_is_word_of pm_is_word_of ct_is_word_of : Value}
    {cd_is_word_of : Value}
    (a_is_word_of : PySem.W.nsIn K mainGlobals "is_word_of" = some (some (.ref f_is_word_of)))
    (l_is_word_of : K.lookup f_is_word_of = some ⟨oc_is_word_of, od_is_word_of, .func (PySem.W.fnOf "is_word_of" "is_word_of" (defArgs s_is_word_of) (defBody s_is_word_of) (defScope s_is_word_of) .none kV_is_word_of dc_is_word_of pm_is_word_of an_is_word_of cd_is_word_of ct_is_word_of), sl_is_word_of⟩)
    (c_is_word_of : PySem.W.codeIn K cd_is_word_of "is_word_of" = true)
    (k_is_word_of : PySem.W.keepIn K (.ref f_is_word_of) = true)
    {f_is_gate : Addr} {od_is_gate an_is_gate : Option Addr} {sl_is_gate : Array (Option Value)} {oc_is_gate kV_is_gate dc_is_gate pm_is_gate ct_is_gate : Value}
    {cd_is_gate : Value}
    (a_is_gate : PySem.W.nsIn K mainGlobals "is_gate" = some (some (.ref f_is_gate)))
    (l_is_gate : K.lookup f_is_gate = some ⟨oc_is_gate, od_is_gate, .func (PySem.W.fnOf "is_gate" "is_gate" (defArgs s_is_gate) (defBody s_is_gate) (defScope s_is_gate) .none kV_is_gate dc_is_gate pm_is_gate an_is_gate cd_is_gate ct_is_gate), sl_is_gate⟩)
    (c_is_gate : PySem.W.codeIn K cd_is_gate "is_gate" = true)
    (k_is_gate : PySem.W.keepIn K (.ref f_is_gate) = true)
    {f_is_circuit_value : Addr} {od_is_circuit_value an_is_circuit_value : Option Addr} {sl_is_circuit_value : Array (Option Value)} {oc_is_circuit_value kV_is_circuit_value dc_is_circuit_value pm_is_circuit_value ct_is_circuit_value : Value}
    {cd_is_circuit_value : Value}
    (a_is_circuit_value : PySem.W.nsIn K mainGlobals "is_circuit_value" = some (some (.ref f_is_circuit_value)))
    (l_is_circuit_value : K.lookup f_is_circuit_value = some ⟨oc_is_circuit_value, od_is_circuit_value, .func (PySem.W.fnOf "is_circuit_value" "is_circuit_value" (defArgs s_is_circuit_value) (defBody s_is_circuit_value) (defScope s_is_circuit_value) .none kV_is_circuit_value dc_is_circuit_value pm_is_circuit_value an_is_circuit_value cd_is_circuit_value ct_is_circuit_value), sl_is_circuit_value⟩)
    (c_is_circuit_value : PySem.W.codeIn K cd_is_circuit_value "is_circuit_value" = true)
    (k_is_circuit_value : PySem.W.keepIn K (.ref f_is_circuit_value) = true)
    {f_gate_value : Addr} {od_gate_value an_gate_value : Option Addr} {sl_gate_value : Array (Option Value)} {oc_gate_value kV_gate_value dc_gate_value pm_gate_value ct_gate_value : Value}
    {cd_gate_value : Value}
    (a_gate_value : PySem.W.nsIn K mainGlobals "gate_value" = some (some (.ref f_gate_value)))
    (l_gate_value : K.lookup f_gate_value = some ⟨oc_gate_value, od_gate_value, .func (PySem.W.fnOf "gate_value" "gate_value" (defArgs s_gate_value) (defBody s_gate_value) (defScope s_gate_value) .none kV_gate_value dc_gate_value pm_gate_value an_gate_value cd_gate_value ct_gate_value), sl_gate_value⟩)
    (c_gate_value : PySem.W.codeIn K cd_gate_value "gate_value" = true)
    (k_gate_value : PySem.W.keepIn K (.ref f_gate_value) = true)
    {f_values_for : Addr} {od_values_for an_values_for : Option Addr} {sl_values_for : Array (Option Value)} {oc_values_for kV_values_for dc_values_for pm_values_for ct_values_for : Value}
    {cd_values_for : Value}
    (a_values_for : PySem.W.nsIn K mainGlobals "values_for" = some (some (.ref f_values_for)))
    (l_values_for : K.lookup f_values_for = some ⟨oc_values_for, od_values_for, .func (PySem.W.fnOf "values_for" "values_for" (defArgs s_values_for) (defBody s_values_for) (defScope s_values_for) .none kV_values_for dc_values_for pm_values_for an_values_for cd_values_for ct_values_for), sl_values_for⟩)
    (c_values_for : PySem.W.codeIn K cd_values_for "values_for" = true)
    (k_values_for : PySem.W.keepIn K (.ref f_values_for) = true)
    {f_value_from : Addr} {od_value_from an_value_from : Option Addr} {sl_value_from : Array (Option Value)} {oc_value_from kV_value_from dc_value_from pm_value_from ct_value_from : Value}
    {cd_value_from : Value}
    (a_value_from : PySem.W.nsIn K mainGlobals "value_from" = some (some (.ref f_value_from)))
    (l_value_from : K.lookup f_value_from = some ⟨oc_value_from, od_value_from, .func (PySem.W.fnOf "value_from" "value_from" (defArgs s_value_from) (defBody s_value_from) (defScope s_value_from) .none kV_value_from dc_value_from pm_value_from an_value_from cd_value_from ct_value_from), sl_value_from⟩)
    (c_value_from : PySem.W.codeIn K cd_value_from "value_from" = true)
    (k_value_from : PySem.W.keepIn K (.ref f_value_from) = true)
    {f_is_filling_value : Addr} {od_is_filling_value an_is_filling_value : Option Addr} {sl_is_filling_value : Array (Option Value)} {oc_is_filling_value kV_is_filling_value dc_is_filling_value pm_is_filling_value ct_is_filling_value : Value}
    {cd_is_filling_value : Value}
    (a_is_filling_value : PySem.W.nsIn K mainGlobals "is_filling_value" = some (some (.ref f_is_filling_value)))
    (l_is_filling_value : K.lookup f_is_filling_value = some ⟨oc_is_filling_value, od_is_filling_value, .func (PySem.W.fnOf "is_filling_value" "is_filling_value" (defArgs s_is_filling_value) (defBody s_is_filling_value) (defScope s_is_filling_value) .none kV_is_filling_value dc_is_filling_value pm_is_filling_value an_is_filling_value cd_is_filling_value ct_is_filling_value), sl_is_filling_value⟩)
    (c_is_filling_value : PySem.W.codeIn K cd_is_filling_value "is_filling_value" = true)
    (k_is_filling_value : PySem.W.keepIn K (.ref f_is_filling_value) = true)
    {f_all_fillings : Addr} {od_all_fillings an_all_fillings : Option Addr} {sl_all_fillings : Array (Option Value)} {oc_all_fillings kV_all_fillings dc_all_fillings pm_all_fillings ct_all_fillings : Value}
    {cd_all_fillings : Value}
    (a_all_fillings : PySem.W.nsIn K mainGlobals "all_fillings" = some (some (.ref f_all_fillings)))
    (l_all_fillings : K.lookup f_all_fillings = some ⟨oc_all_fillings, od_all_fillings, .func (PySem.W.fnOf "all_fillings" "all_fillings" (defArgs s_all_fillings) (defBody s_all_fillings) (defScope s_all_fillings) .none kV_all_fillings dc_all_fillings pm_all_fillings an_all_fillings cd_all_fillings ct_all_fillings), sl_all_fillings⟩)
    (c_all_fillings : PySem.W.codeIn K cd_all_fillings "all_fillings" = true)
    (k_all_fillings : PySem.W.keepIn K (.ref f_all_fillings) = true)
    {f_need_circuit : Addr} {od_need_circuit an_need_circuit : Option Addr} {sl_need_circuit : Array (Option Value)} {oc_need_circuit kV_need_circuit dc_need_circuit pm_need_circuit ct_need_circuit : Value}
    {cd_need_circuit : Value}
    (a_need_circuit : PySem.W.nsIn K mainGlobals "need_circuit" = some (some (.ref f_need_circuit)))
    (l_need_circuit : K.lookup f_need_circuit = some ⟨oc_need_circuit, od_need_circuit, .func (PySem.W.fnOf "need_circuit" "need_circuit" (defArgs s_need_circuit) (defBody s_need_circuit) (defScope s_need_circuit) .none kV_need_circuit dc_need_circuit pm_need_circuit an_need_circuit cd_need_circuit ct_need_circuit), sl_need_circuit⟩)
    (c_need_circuit : PySem.W.codeIn K cd_need_circuit "need_circuit" = true)
    (k_need_circuit : PySem.W.keepIn K (.ref f_need_circuit) = true)
    {f_circuit_after : Addr} {od_circuit_after an_circuit_after : Option Addr} {sl_circuit_after : Array (Option Value)} {oc_circuit_after kV_circuit_after dc_circuit_after pm_circuit_after ct_circuit_after : Value}
    {cd_circuit_after : Value}
    (a_circuit_after : PySem.W.nsIn K mainGlobals "circuit_after" = some (some (.ref f_circuit_after)))
    (l_circuit_after : K.lookup f_circuit_after = some ⟨oc_circuit_after, od_circuit_after, .func (PySem.W.fnOf "circuit_after" "circuit_after" (defArgs s_circuit_after) (defBody s_circuit_after) (defScope s_circuit_after) .none kV_circuit_after dc_circuit_after pm_circuit_after an_circuit_after cd_circuit_after ct_circuit_after), sl_circuit_after⟩)
    (c_circuit_after : PySem.W.codeIn K cd_circuit_after "circuit_after" = true)
    (k_circuit_after : PySem.W.keepIn K (.ref f_circuit_after) = true)
    {f_circuit_value : Addr} {od_circuit_value an_circuit_value : Option Addr} {sl_circuit_value : Array (Option Value)} {oc_circuit_value kV_circuit_value dc_circuit_value pm_circuit_value ct_circuit_value : Value}
    {cd_circuit_value : Value}
    (a_circuit_value : PySem.W.nsIn K mainGlobals "circuit_value" = some (some (.ref f_circuit_value)))
    (l_circuit_value : K.lookup f_circuit_value = some ⟨oc_circuit_value, od_circuit_value, .func (PySem.W.fnOf "circuit_value" "circuit_value" (defArgs s_circuit_value) (defBody s_circuit_value) (defScope s_circuit_value) .none kV_circuit_value dc_circuit_value pm_circuit_value an_circuit_value cd_circuit_value ct_circuit_value), sl_circuit_value⟩)
    (c_circuit_value : PySem.W.codeIn K cd_circuit_value "circuit_value" = true)
    (k_circuit_value : PySem.W.keepIn K (.ref f_circuit_value) = true)
    {f_many_true : Addr} {od_many_true an_many_true : Option Addr} {sl_many_true : Array (Option Value)} {oc_many_true kV_many_true dc_many_true pm_many_true ct_many_true : Value}
    {cd_many_true : Value}
    (a_many_true : PySem.W.nsIn K mainGlobals "many_true" = some (some (.ref f_many_true)))
    (l_many_true : K.lookup f_many_true = some ⟨oc_many_true, od_many_true, .func (PySem.W.fnOf "many_true" "many_true" (defArgs s_many_true) (defBody s_many_true) (defScope s_many_true) .none kV_many_true dc_many_true pm_many_true an_many_true cd_many_true ct_many_true), sl_many_true⟩)
    (c_many_true : PySem.W.codeIn K cd_many_true "many_true" = true)
    (k_many_true : PySem.W.keepIn K (.ref f_many_true) = true)
    {f__law_deck : Addr} {od__law_deck an__law_deck : Option Addr} {sl__law_deck : Array (Option Value)} {oc__law_deck kV__law_deck dc__law_deck pm__law_deck ct__law_deck : Value}
    {cd__law_deck : Value}
    (a__law_deck : PySem.W.nsIn K mainGlobals "_law_deck" = some (some (.ref f__law_deck)))
    (l__law_deck : K.lookup f__law_deck = some ⟨oc__law_deck, od__law_deck, .func (PySem.W.fnOf "_law_deck" "_law_deck" (defArgs s__law_deck) (defBody s__law_deck) (defScope s__law_deck) .none kV__law_deck dc__law_deck pm__law_deck an__law_deck cd__law_deck ct__law_deck), sl__law_deck⟩)
    (c__law_deck : PySem.W.codeIn K cd__law_deck "_law_deck" = true)
    (k__law_deck : PySem.W.keepIn K (.ref f__law_deck) = true)
    {f__law_draw : Addr} {od__law_draw an__law_draw : Option Addr} {sl__law_draw : Array (Option Value)} {oc__law_draw kV__law_draw dc__law_draw pm__law_draw ct__law_draw : Value}
    {cd__law_draw : Value}
    (a__law_draw : PySem.W.nsIn K mainGlobals "_law_draw" = some (some (.ref f__law_draw)))
    (l__law_draw : K.lookup f__law_draw = some ⟨oc__law_draw, od__law_draw, .func (PySem.W.fnOf "_law_draw" "_law_draw" (defArgs s__law_draw) (defBody s__law_draw) (defScope s__law_draw) .none kV__law_draw dc__law_draw pm__law_draw an__law_draw cd__law_draw ct__law_draw), sl__law_draw⟩)
    (c__law_draw : PySem.W.codeIn K cd__law_draw "_law_draw" = true)
    (k__law_draw : PySem.W.keepIn K (.ref f__law_draw) = true)
    {f__law_pick : Addr} {od__law_pick an__law_pick : Option Addr} {sl__law_pick : Array (Option Value)} {oc__law_pick kV__law_pick dc__law_pick pm__law_pick ct__law_pick : Value}
    {cd__law_pick : Value}
    (a__law_pick : PySem.W.nsIn K mainGlobals "_law_pick" = some (some (.ref f__law_pick)))
    (l__law_pick : K.lookup f__law_pick = some ⟨oc__law_pick, od__law_pick, .func (PySem.W.fnOf "_law_pick" "_law_pick" (defArgs s__law_pick) (defBody s__law_pick) (defScope s__law_pick) .none kV__law_pick dc__law_pick pm__law_pick an__law_pick cd__law_pick ct__law_pick), sl__law_pick⟩)
    (c__law_pick : PySem.W.codeIn K cd__law_pick "_law_pick" = true)
    (k__law_pick : PySem.W.keepIn K (.ref f__law_pick) = true)
    {f__law_same : Addr} {od__law_same an__law_same : Option Addr} {sl__law_same : Array (Option Value)} {oc__law_same kV__law_same dc__law_same pm__law_same ct__law_same : Value}
    {cd__law_same : Value}
    (a__law_same : PySem.W.nsIn K mainGlobals "_law_same" = some (some (.ref f__law_same)))
    (l__law_same : K.lookup f__law_same = some ⟨oc__law_same, od__law_same, .func (PySem.W.fnOf "_law_same" "_law_same" (defArgs s__law_same) (defBody s__law_same) (defScope s__law_same) .none kV__law_same dc__law_same pm__law_same an__law_same cd__law_same ct__law_same), sl__law_same⟩)
    (c__law_same : PySem.W.codeIn K cd__law_same "_law_same" = true)
    (k__law_same : PySem.W.keepIn K (.ref f__law_same) = true)
    {f__law_near_number : Addr} {od__law_near_number an__law_near_number : Option Addr} {sl__law_near_number : Array (Option Value)} {oc__law_near_number kV__law_near_number dc__law_near_number pm__law_near_number ct__law_near_number : Value}
    {cd__law_near_number : Value}
    (a__law_near_number : PySem.W.nsIn K mainGlobals "_law_near_number" = some (some (.ref f__law_near_number)))
    (l__law_near_number : K.lookup f__law_near_number = some ⟨oc__law_near_number, od__law_near_number, .func (PySem.W.fnOf "_law_near_number" "_law_near_number" (defArgs s__law_near_number) (defBody s__law_near_number) (defScope s__law_near_number) .none kV__law_near_number dc__law_near_number pm__law_near_number an__law_near_number cd__law_near_number ct__law_near_number), sl__law_near_number⟩)
    (c__law_near_number : PySem.W.codeIn K cd__law_near_number "_law_near_number" = true)
    (k__law_near_number : PySem.W.keepIn K (.ref f__law_near_number) = true)
    {f__law_drawn_circuit : Addr} {od__law_drawn_circuit an__law_drawn_circuit : Option Addr} {sl__law_drawn_circuit : Array (Option Value)} {oc__law_drawn_circuit kV__law_drawn_circuit dc__law_drawn_circuit pm__law_drawn_circuit ct__law_drawn_circuit : Value}
    {cd__law_drawn_circuit : Value}
    (a__law_drawn_circuit : PySem.W.nsIn K mainGlobals "_law_drawn_circuit" = some (some (.ref f__law_drawn_circuit)))
    (l__law_drawn_circuit : K.lookup f__law_drawn_circuit = some ⟨oc__law_drawn_circuit, od__law_drawn_circuit, .func (PySem.W.fnOf "_law_drawn_circuit" "_law_drawn_circuit" (defArgs s__law_drawn_circuit) (defBody s__law_drawn_circuit) (defScope s__law_drawn_circuit) .none kV__law_drawn_circuit dc__law_drawn_circuit pm__law_drawn_circuit an__law_drawn_circuit cd__law_drawn_circuit ct__law_drawn_circuit), sl__law_drawn_circuit⟩)
    (c__law_drawn_circuit : PySem.W.codeIn K cd__law_drawn_circuit "_law_drawn_circuit" = true)
    (k__law_drawn_circuit : PySem.W.keepIn K (.ref f__law_drawn_circuit) = true)
    {f__law_values : Addr} {od__law_values an__law_values : Option Addr} {sl__law_values : Array (Option Value)} {oc__law_values kV__law_values dc__law_values pm__law_values ct__law_values : Value}
    {cd__law_values : Value}
    (a__law_values : PySem.W.nsIn K mainGlobals "_law_values" = some (some (.ref f__law_values)))
    (l__law_values : K.lookup f__law_values = some ⟨oc__law_values, od__law_values, .func (PySem.W.fnOf "_law_values" "_law_values" (defArgs s__law_values) (defBody s__law_values) (defScope s__law_values) .none kV__law_values dc__law_values pm__law_values an__law_values cd__law_values ct__law_values), sl__law_values⟩)
    (c__law_values : PySem.W.codeIn K cd__law_values "_law_values" = true)
    (k__law_values : PySem.W.keepIn K (.ref f__law_values) = true)
    {f__law_fillings : Addr} {od__law_fillings an__law_fillings : Option Addr} {sl__law_fillings : Array (Option Value)} {oc__law_fillings kV__law_fillings dc__law_fillings pm__law_fillings ct__law_fillings : Value}
    {cd__law_fillings : Value}
    (a__law_fillings : PySem.W.nsIn K mainGlobals "_law_fillings" = some (some (.ref f__law_fillings)))
    (l__law_fillings : K.lookup f__law_fillings = some ⟨oc__law_fillings, od__law_fillings, .func (PySem.W.fnOf "_law_fillings" "_law_fillings" (defArgs s__law_fillings) (defBody s__law_fillings) (defScope s__law_fillings) .none kV__law_fillings dc__law_fillings pm__law_fillings an__law_fillings cd__law_fillings ct__law_fillings), sl__law_fillings⟩)
    (c__law_fillings : PySem.W.codeIn K cd__law_fillings "_law_fillings" = true)
    (k__law_fillings : PySem.W.keepIn K (.ref f__law_fillings) = true)
    {f__law_row : Addr} {od__law_row an__law_row : Option Addr} {sl__law_row : Array (Option Value)} {oc__law_row kV__law_row dc__law_row pm__law_row ct__law_row : Value}
    {cd__law_row : Value}
    (a__law_row : PySem.W.nsIn K mainGlobals "_law_row" = some (some (.ref f__law_row)))
    (l__law_row : K.lookup f__law_row = some ⟨oc__law_row, od__law_row, .func (PySem.W.fnOf "_law_row" "_law_row" (defArgs s__law_row) (defBody s__law_row) (defScope s__law_row) .none kV__law_row dc__law_row pm__law_row an__law_row cd__law_row ct__law_row), sl__law_row⟩)
    (c__law_row : PySem.W.codeIn K cd__law_row "_law_row" = true)
    (k__law_row : PySem.W.keepIn K (.ref f__law_row) = true)
    {f__law_value : Addr} {od__law_value an__law_value : Option Addr} {sl__law_value : Array (Option Value)} {oc__law_value kV__law_value dc__law_value pm__law_value ct__law_value : Value}
    {cd__law_value : Value}
    (a__law_value : PySem.W.nsIn K mainGlobals "_law_value" = some (some (.ref f__law_value)))
    (l__law_value : K.lookup f__law_value = some ⟨oc__law_value, od__law_value, .func (PySem.W.fnOf "_law_value" "_law_value" (defArgs s__law_value) (defBody s__law_value) (defScope s__law_value) .none kV__law_value dc__law_value pm__law_value an__law_value cd__law_value ct__law_value), sl__law_value⟩)
    (c__law_value : PySem.W.codeIn K cd__law_value "_law_value" = true)
    (k__law_value : PySem.W.keepIn K (.ref f__law_value) = true)
    {f__law_is_whole : Addr} {od__law_is_whole an__law_is_whole : Option Addr} {sl__law_is_whole : Array (Option Value)} {oc__law_is_whole kV__law_is_whole dc__law_is_whole pm__law_is_whole ct__law_is_whole : Value}
    {cd__law_is_whole : Value}
    (a__law_is_whole : PySem.W.nsIn K mainGlobals "_law_is_whole" = some (some (.ref f__law_is_whole)))
    (l__law_is_whole : K.lookup f__law_is_whole = some ⟨oc__law_is_whole, od__law_is_whole, .func (PySem.W.fnOf "_law_is_whole" "_law_is_whole" (defArgs s__law_is_whole) (defBody s__law_is_whole) (defScope s__law_is_whole) .none kV__law_is_whole dc__law_is_whole pm__law_is_whole an__law_is_whole cd__law_is_whole ct__law_is_whole), sl__law_is_whole⟩)
    (c__law_is_whole : PySem.W.codeIn K cd__law_is_whole "_law_is_whole" = true)
    (k__law_is_whole : PySem.W.keepIn K (.ref f__law_is_whole) = true)
    {f__law_is_gate : Addr} {od__law_is_gate an__law_is_gate : Option Addr} {sl__law_is_gate : Array (Option Value)} {oc__law_is_gate kV__law_is_gate dc__law_is_gate pm__law_is_gate ct__law_is_gate : Value}
    {cd__law_is_gate : Value}
    (a__law_is_gate : PySem.W.nsIn K mainGlobals "_law_is_gate" = some (some (.ref f__law_is_gate)))
    (l__law_is_gate : K.lookup f__law_is_gate = some ⟨oc__law_is_gate, od__law_is_gate, .func (PySem.W.fnOf "_law_is_gate" "_law_is_gate" (defArgs s__law_is_gate) (defBody s__law_is_gate) (defScope s__law_is_gate) .none kV__law_is_gate dc__law_is_gate pm__law_is_gate an__law_is_gate cd__law_is_gate ct__law_is_gate), sl__law_is_gate⟩)
    (c__law_is_gate : PySem.W.codeIn K cd__law_is_gate "_law_is_gate" = true)
    (k__law_is_gate : PySem.W.keepIn K (.ref f__law_is_gate) = true)
    {f__law_is_circuit : Addr} {od__law_is_circuit an__law_is_circuit : Option Addr} {sl__law_is_circuit : Array (Option Value)} {oc__law_is_circuit kV__law_is_circuit dc__law_is_circuit pm__law_is_circuit ct__law_is_circuit : Value}
    {cd__law_is_circuit : Value}
    (a__law_is_circuit : PySem.W.nsIn K mainGlobals "_law_is_circuit" = some (some (.ref f__law_is_circuit)))
    (l__law_is_circuit : K.lookup f__law_is_circuit = some ⟨oc__law_is_circuit, od__law_is_circuit, .func (PySem.W.fnOf "_law_is_circuit" "_law_is_circuit" (defArgs s__law_is_circuit) (defBody s__law_is_circuit) (defScope s__law_is_circuit) .none kV__law_is_circuit dc__law_is_circuit pm__law_is_circuit an__law_is_circuit cd__law_is_circuit ct__law_is_circuit), sl__law_is_circuit⟩)
    (c__law_is_circuit : PySem.W.codeIn K cd__law_is_circuit "_law_is_circuit" = true)
    (k__law_is_circuit : PySem.W.keepIn K (.ref f__law_is_circuit) = true)
    {f__law_bent : Addr} {od__law_bent an__law_bent : Option Addr} {sl__law_bent : Array (Option Value)} {oc__law_bent kV__law_bent dc__law_bent pm__law_bent ct__law_bent : Value}
    {cd__law_bent : Value}
    (a__law_bent : PySem.W.nsIn K mainGlobals "_law_bent" = some (some (.ref f__law_bent)))
    (l__law_bent : K.lookup f__law_bent = some ⟨oc__law_bent, od__law_bent, .func (PySem.W.fnOf "_law_bent" "_law_bent" (defArgs s__law_bent) (defBody s__law_bent) (defScope s__law_bent) .none kV__law_bent dc__law_bent pm__law_bent an__law_bent cd__law_bent ct__law_bent), sl__law_bent⟩)
    (c__law_bent : PySem.W.codeIn K cd__law_bent "_law_bent" = true)
    (k__law_bent : PySem.W.keepIn K (.ref f__law_bent) = true)
    {f__law_no_circuit : Addr} {od__law_no_circuit an__law_no_circuit : Option Addr} {sl__law_no_circuit : Array (Option Value)} {oc__law_no_circuit kV__law_no_circuit dc__law_no_circuit pm__law_no_circuit ct__law_no_circuit : Value}
    {cd__law_no_circuit : Value}
    (a__law_no_circuit : PySem.W.nsIn K mainGlobals "_law_no_circuit" = some (some (.ref f__law_no_circuit)))
    (l__law_no_circuit : K.lookup f__law_no_circuit = some ⟨oc__law_no_circuit, od__law_no_circuit, .func (PySem.W.fnOf "_law_no_circuit" "_law_no_circuit" (defArgs s__law_no_circuit) (defBody s__law_no_circuit) (defScope s__law_no_circuit) .none kV__law_no_circuit dc__law_no_circuit pm__law_no_circuit an__law_no_circuit cd__law_no_circuit ct__law_no_circuit), sl__law_no_circuit⟩)
    (c__law_no_circuit : PySem.W.codeIn K cd__law_no_circuit "_law_no_circuit" = true)
    (k__law_no_circuit : PySem.W.keepIn K (.ref f__law_no_circuit) = true)
    {f__law_no_filling : Addr} {od__law_no_filling an__law_no_filling : Option Addr} {sl__law_no_filling : Array (Option Value)} {oc__law_no_filling kV__law_no_filling dc__law_no_filling pm__law_no_filling ct__law_no_filling : Value}
    {cd__law_no_filling : Value}
    (a__law_no_filling : PySem.W.nsIn K mainGlobals "_law_no_filling" = some (some (.ref f__law_no_filling)))
    (l__law_no_filling : K.lookup f__law_no_filling = some ⟨oc__law_no_filling, od__law_no_filling, .func (PySem.W.fnOf "_law_no_filling" "_law_no_filling" (defArgs s__law_no_filling) (defBody s__law_no_filling) (defScope s__law_no_filling) .none kV__law_no_filling dc__law_no_filling pm__law_no_filling an__law_no_filling cd__law_no_filling ct__law_no_filling), sl__law_no_filling⟩)
    (c__law_no_filling : PySem.W.codeIn K cd__law_no_filling "_law_no_filling" = true)
    (k__law_no_filling : PySem.W.keepIn K (.ref f__law_no_filling) = true)
    {f__law_heard : Addr} {od__law_heard an__law_heard : Option Addr} {sl__law_heard : Array (Option Value)} {oc__law_heard kV__law_heard dc__law_heard pm__law_heard ct__law_heard : Value}
    {cd__law_heard : Value}
    (a__law_heard : PySem.W.nsIn K mainGlobals "_law_heard" = some (some (.ref f__law_heard)))
    (l__law_heard : K.lookup f__law_heard = some ⟨oc__law_heard, od__law_heard, .func (PySem.W.fnOf "_law_heard" "_law_heard" (defArgs s__law_heard) (defBody s__law_heard) (defScope s__law_heard) .none kV__law_heard dc__law_heard pm__law_heard an__law_heard cd__law_heard ct__law_heard), sl__law_heard⟩)
    (c__law_heard : PySem.W.codeIn K cd__law_heard "_law_heard" = true)
    (k__law_heard : PySem.W.keepIn K (.ref f__law_heard) = true)
    {f_law : Addr} {od_law an_law : Option Addr} {sl_law : Array (Option Value)} {oc_law kV_law dc_law pm_law ct_law : Value}
    {c Pt : Addr}
    (a_law : PySem.W.nsIn K mainGlobals "law" = some (some (.ref f_law)))
    (l_law : K.lookup f_law = some ⟨oc_law, od_law, .func (PySem.W.fnOf "law" "law" (defArgs s_law) (defBody s_law) (defScope s_law) .none kV_law dc_law pm_law an_law (.ref c) ct_law), sl_law⟩)
    (c_law : PySem.W.codeIn K (.ref c) "law" = true)
    (k_law : PySem.W.keepIn K (.ref f_law) = true)
    {ec : Value} {ddc : Option Addr} {vsc : Array Value} {slc : Array (Option Value)}
    (lcode : K.lookup c = some ⟨ec, ddc, .fields vsc, slc⟩)
    (l11 : vsc[11]? = some (.ref Pt))
    (tabK : K.lookup Pt = none)
    (z_all : PySem.W.nsIn K mainGlobals "all" = some none)
    (z_any : PySem.W.nsIn K mainGlobals "any" = some none)
    (z_bool : PySem.W.nsIn K mainGlobals "bool" = some none)
    (z_enumerate : PySem.W.nsIn K mainGlobals "enumerate" = some none)
    (z_int : PySem.W.nsIn K mainGlobals "int" = some none)
    (z_isinstance : PySem.W.nsIn K mainGlobals "isinstance" = some none)
    (z_len : PySem.W.nsIn K mainGlobals "len" = some none)
    (z_list : PySem.W.nsIn K mainGlobals "list" = some none)
    (z_max : PySem.W.nsIn K mainGlobals "max" = some none)
    (z_range : PySem.W.nsIn K mainGlobals "range" = some none)
    (z_repr : PySem.W.nsIn K mainGlobals "repr" = some none)
    (z_str : PySem.W.nsIn K mainGlobals "str" = some none)
    (z_tuple : PySem.W.nsIn K mainGlobals "tuple" = some none)
    (z_zip : PySem.W.nsIn K mainGlobals "zip" = some none)
    {t_LETTERS_OF_FILLINGS_circuitwork : Tok}
    (g_LETTERS_OF_FILLINGS_circuitwork : PySem.W.nsIn K mainGlobals "LETTERS_OF_FILLINGS_circuitwork" = some (some (.str "ft" t_LETTERS_OF_FILLINGS_circuitwork)))
    {p_JOINING : Addr} {dd_JOINING : Option Addr} {n_JOINING : Nat} {sl_JOINING : Array (Option Value)} {t0_JOINING t1_JOINING : Tok}
    (g_JOINING : PySem.W.nsIn K mainGlobals "JOINING" = some (some (.ref p_JOINING)))
    (gl_JOINING : K.lookup p_JOINING = some ⟨.type "tuple", dd_JOINING, .seq #[.str "and" t0_JOINING, .str "or" t1_JOINING] n_JOINING, sl_JOINING⟩)
    {t_LETTERS_OF_FILLINGS_formulawork : Tok}
    (g_LETTERS_OF_FILLINGS_formulawork : PySem.W.nsIn K mainGlobals "LETTERS_OF_FILLINGS_formulawork" = some (some (.str "ft" t_LETTERS_OF_FILLINGS_formulawork)))
    {C_PlayError : Addr}
    (a_PlayError : PySem.W.nsIn K mainGlobals "PlayError" = some (some (.ref C_PlayError)))
    {C_BadFilling I_BadFilling N_BadFilling : Addr} {nm_BadFilling q_BadFilling : Str} {bs_BadFilling bm_BadFilling sub_BadFilling : List Value} {sn_BadFilling : List Str} {ab_BadFilling : Bool} {col_BadFilling : Option Bool} {dd_BadFilling : Option Addr} {m0_BadFilling m1_BadFilling m2_BadFilling m3_BadFilling m5_BadFilling : Option Value} {oc_BadFilling dc_BadFilling pm_BadFilling cd_BadFilling ct_BadFilling : Value} {od_BadFilling an_BadFilling : Option Addr} {sl_BadFilling : Array (Option Value)} {P1_BadFilling P2_BadFilling Q1_BadFilling Q2_BadFilling Q3_BadFilling Q4_BadFilling : Pos}
    (a_BadFilling : PySem.W.nsIn K mainGlobals "BadFilling" = some (some (.ref C_BadFilling)))
    (xL_BadFilling : K.lookup C_BadFilling = some (excClassObj nm_BadFilling q_BadFilling C_BadFilling N_BadFilling bs_BadFilling bm_BadFilling true sn_BadFilling sub_BadFilling ab_BadFilling col_BadFilling dd_BadFilling m0_BadFilling m1_BadFilling m2_BadFilling m3_BadFilling m5_BadFilling "Exception.__new__"))
    (ov_BadFilling : overExc bm_BadFilling = true)
    (sa_BadFilling : PySem.W.findIn K (.ref C_BadFilling) "__setattr__" = some (some (.builtin "object.__setattr__")))
    (ga_BadFilling : PySem.W.findIn K (.ref C_BadFilling) "__getattribute__" = some (some (.builtin "BaseException.__getattribute__")))
    (gg_BadFilling : PySem.W.findIn K (.ref C_BadFilling) "__getattr__" = some none)
    (no_BadFilling : PySem.W.findIn K (.ref C_BadFilling) "thing" = some none)
    (in_BadFilling : PySem.W.findIn K (.ref C_BadFilling) "__init__" = some (some (.ref I_BadFilling)))
    (fc_BadFilling : PySem.W.findIn K (.ref C_BadFilling) "__class__" = some (some (.builtin "object.__class__")))
    (tI_BadFilling : PySem.W.typeIn K (.ref I_BadFilling) = some (.type "function"))
    (kC_BadFilling : PySem.W.keepIn K (.ref C_BadFilling) = true)
    (eC_BadFilling : PySem.W.subIn K (.ref C_BadFilling) (.type "BaseException") = some true)
    (tC_BadFilling : PySem.W.typeIn K (.ref C_BadFilling) = some (.type "type"))
    (hC_BadFilling : PySem.W.hasDictIn K C_BadFilling = true)
    (mo_BadFilling : PySem.W.mroIn K C_BadFilling (.type "object") = some true)
    (lI_BadFilling : K.lookup I_BadFilling = some ⟨oc_BadFilling, od_BadFilling, .func (PySem.W.fnOf "__init__" "BadFilling.__init__" (DR.iA P1_BadFilling P2_BadFilling) (DR.iB Q1_BadFilling Q2_BadFilling Q3_BadFilling Q4_BadFilling) DR.iS .none .none dc_BadFilling pm_BadFilling an_BadFilling cd_BadFilling ct_BadFilling), sl_BadFilling⟩)
    (cI_BadFilling : PySem.W.codeIn K cd_BadFilling "BadFilling.__init__" = true)
    {C_BadCircuit I_BadCircuit N_BadCircuit : Addr} {nm_BadCircuit q_BadCircuit : Str} {bs_BadCircuit bm_BadCircuit sub_BadCircuit : List Value} {sn_BadCircuit : List Str} {ab_BadCircuit : Bool} {col_BadCircuit : Option Bool} {dd_BadCircuit : Option Addr} {m0_BadCircuit m1_BadCircuit m2_BadCircuit m3_BadCircuit m5_BadCircuit : Option Value} {oc_BadCircuit dc_BadCircuit pm_BadCircuit cd_BadCircuit ct_BadCircuit : Value} {od_BadCircuit an_BadCircuit : Option Addr} {sl_BadCircuit : Array (Option Value)} {P1_BadCircuit P2_BadCircuit Q1_BadCircuit Q2_BadCircuit Q3_BadCircuit Q4_BadCircuit : Pos}
    (a_BadCircuit : PySem.W.nsIn K mainGlobals "BadCircuit" = some (some (.ref C_BadCircuit)))
    (xL_BadCircuit : K.lookup C_BadCircuit = some (excClassObj nm_BadCircuit q_BadCircuit C_BadCircuit N_BadCircuit bs_BadCircuit bm_BadCircuit true sn_BadCircuit sub_BadCircuit ab_BadCircuit col_BadCircuit dd_BadCircuit m0_BadCircuit m1_BadCircuit m2_BadCircuit m3_BadCircuit m5_BadCircuit "Exception.__new__"))
    (ov_BadCircuit : overExc bm_BadCircuit = true)
    (sa_BadCircuit : PySem.W.findIn K (.ref C_BadCircuit) "__setattr__" = some (some (.builtin "object.__setattr__")))
    (ga_BadCircuit : PySem.W.findIn K (.ref C_BadCircuit) "__getattribute__" = some (some (.builtin "BaseException.__getattribute__")))
    (gg_BadCircuit : PySem.W.findIn K (.ref C_BadCircuit) "__getattr__" = some none)
    (no_BadCircuit : PySem.W.findIn K (.ref C_BadCircuit) "thing" = some none)
    (in_BadCircuit : PySem.W.findIn K (.ref C_BadCircuit) "__init__" = some (some (.ref I_BadCircuit)))
    (fc_BadCircuit : PySem.W.findIn K (.ref C_BadCircuit) "__class__" = some (some (.builtin "object.__class__")))
    (tI_BadCircuit : PySem.W.typeIn K (.ref I_BadCircuit) = some (.type "function"))
    (kC_BadCircuit : PySem.W.keepIn K (.ref C_BadCircuit) = true)
    (eC_BadCircuit : PySem.W.subIn K (.ref C_BadCircuit) (.type "BaseException") = some true)
    (tC_BadCircuit : PySem.W.typeIn K (.ref C_BadCircuit) = some (.type "type"))
    (hC_BadCircuit : PySem.W.hasDictIn K C_BadCircuit = true)
    (mo_BadCircuit : PySem.W.mroIn K C_BadCircuit (.type "object") = some true)
    (lI_BadCircuit : K.lookup I_BadCircuit = some ⟨oc_BadCircuit, od_BadCircuit, .func (PySem.W.fnOf "__init__" "BadCircuit.__init__" (DR.iA P1_BadCircuit P2_BadCircuit) (DR.iB Q1_BadCircuit Q2_BadCircuit Q3_BadCircuit Q4_BadCircuit) DR.iS .none .none dc_BadCircuit pm_BadCircuit an_BadCircuit cd_BadCircuit ct_BadCircuit), sl_BadCircuit⟩)
    (cI_BadCircuit : PySem.W.codeIn K cd_BadCircuit "BadCircuit.__init__" = true)
    (hn : PySem.W.specialIn K (.builtin "object.__class__") "__get__" = some (some (.builtin "getset_descriptor.__get__")))
    (ht : PySem.W.takesIn K (.builtin "object.__class__") = some true)
    (tP : PySem.W.typeIn K (.ref C_PlayError) = some (.type "type"))
    (hP : PySem.W.hasDictIn K C_PlayError = true)
    (sp_BadCircuit : PySem.W.subIn K (.ref C_BadCircuit) (.ref C_PlayError) = some true)
    (sp_BadFilling : PySem.W.subIn K (.ref C_BadFilling) (.ref C_PlayError) = some true)
    (su_BadCircuit_BadCircuit : PySem.W.subIn K (.ref C_BadCircuit) (.ref C_BadCircuit) = some true)
    (su_BadCircuit_BadFilling : PySem.W.subIn K (.ref C_BadCircuit) (.ref C_BadFilling) = some false)
    (su_BadFilling_BadCircuit : PySem.W.subIn K (.ref C_BadFilling) (.ref C_BadCircuit) = some false)
    (su_BadFilling_BadFilling : PySem.W.subIn K (.ref C_BadFilling) (.ref C_BadFilling) = some true)
    (ne_BadCircuit_BadFilling : decide (C_BadCircuit = C_BadFilling) = false) :
    ∃ c Pt, PySem.W.tabIn K "law" = some (c, Pt) ∧ K.lookup Pt = none ∧ ∀ (sc : Addr) (ns : List Int) (s : Shared), ns.length ≤ 63 → LawRun PP wd K mg fa sc c Pt ns s := by
  have e := hfa.symm.trans (PySem.W.mg_of X G a_law)
  cases e
  have F_is_integer := fun_mk (st := s_is_integer) l_is_integer c_is_integer k_is_integer
  have F_is_from := fun_mk (st := s_is_from) l_is_from c_is_from k_is_from
  have F_is_tuple := fun_mk (st := s_is_tuple) l_is_tuple c_is_tuple k_is_tuple
  have F_is_word_of := fun_mk (st := s_is_word_of) l_is_word_of c_is_word_of k_is_word_of
  have F_is_gate := fun_mk (st := s_is_gate) l_is_gate c_is_gate k_is_gate
  have F_is_circuit_value := fun_mk (st := s_is_circuit_value) l_is_circuit_value c_is_circuit_value k_is_circuit_value
  have F_gate_value := fun_mk (st := s_gate_value) l_gate_value c_gate_value k_gate_value
  have F_values_for := fun_mk (st := s_values_for) l_values_for c_values_for k_values_for
  have F_value_from := fun_mk (st := s_value_from) l_value_from c_value_from k_value_from
  have F_is_filling_value := fun_mk (st := s_is_filling_value) l_is_filling_value c_is_filling_value k_is_filling_value
  have F_all_fillings := fun_mk (st := s_all_fillings) l_all_fillings c_all_fillings k_all_fillings
  have F_need_circuit := fun_mk (st := s_need_circuit) l_need_circuit c_need_circuit k_need_circuit
  have F_circuit_after := fun_mk (st := s_circuit_after) l_circuit_after c_circuit_after k_circuit_after
  have F_circuit_value := fun_mk (st := s_circuit_value) l_circuit_value c_circuit_value k_circuit_value
  have F_many_true := fun_mk (st := s_many_true) l_many_true c_many_true k_many_true
  have F__law_deck := fun_mk (st := s__law_deck) l__law_deck c__law_deck k__law_deck
  have F__law_draw := fun_mk (st := s__law_draw) l__law_draw c__law_draw k__law_draw
  have F__law_pick := fun_mk (st := s__law_pick) l__law_pick c__law_pick k__law_pick
  have F__law_same := fun_mk (st := s__law_same) l__law_same c__law_same k__law_same
  have F__law_near_number := fun_mk (st := s__law_near_number) l__law_near_number c__law_near_number k__law_near_number
  have F__law_drawn_circuit := fun_mk (st := s__law_drawn_circuit) l__law_drawn_circuit c__law_drawn_circuit k__law_drawn_circuit
  have F__law_values := fun_mk (st := s__law_values) l__law_values c__law_values k__law_values
  have F__law_fillings := fun_mk (st := s__law_fillings) l__law_fillings c__law_fillings k__law_fillings
  have F__law_row := fun_mk (st := s__law_row) l__law_row c__law_row k__law_row
  have F__law_value := fun_mk (st := s__law_value) l__law_value c__law_value k__law_value
  have F__law_is_whole := fun_mk (st := s__law_is_whole) l__law_is_whole c__law_is_whole k__law_is_whole
  have F__law_is_gate := fun_mk (st := s__law_is_gate) l__law_is_gate c__law_is_gate k__law_is_gate
  have F__law_is_circuit := fun_mk (st := s__law_is_circuit) l__law_is_circuit c__law_is_circuit k__law_is_circuit
  have F__law_bent := fun_mk (st := s__law_bent) l__law_bent c__law_bent k__law_bent
  have F__law_no_circuit := fun_mk (st := s__law_no_circuit) l__law_no_circuit c__law_no_circuit k__law_no_circuit
  have F__law_no_filling := fun_mk (st := s__law_no_filling) l__law_no_filling c__law_no_filling k__law_no_filling
  have F__law_heard := fun_mk (st := s__law_heard) l__law_heard c__law_heard k__law_heard
  have F_law := fun_mk (st := s_law) l_law c_law k_law
  have E_BadFilling : ErrTxt K mg "BadFilling" "BadFilling.__init__" C_BadFilling I_BadFilling := { gC := PySem.W.mg_of X G a_BadFilling, cls := ⟨_, _, _, _, _, _, _, _, _, _, _, _, _, _, _, xL_BadFilling, ov_BadFilling⟩, sa := sa_BadFilling, ga := ga_BadFilling, gg := gg_BadFilling, noN := no_BadFilling, iC := in_BadFilling, tC := tI_BadFilling, kC := kC_BadFilling, exC := eC_BadFilling, tyC := tC_BadFilling, hdC := hC_BadFilling, clC := cls_some hC_BadFilling, fcl := fc_BadFilling, mob := mo_BadFilling, fn := ⟨_, _, _, _, _, _, _, _, _, _, _, _, _, _, lI_BadFilling, cI_BadFilling⟩ }
  have E_BadCircuit : ErrTxt K mg "BadCircuit" "BadCircuit.__init__" C_BadCircuit I_BadCircuit := { gC := PySem.W.mg_of X G a_BadCircuit, cls := ⟨_, _, _, _, _, _, _, _, _, _, _, _, _, _, _, xL_BadCircuit, ov_BadCircuit⟩, sa := sa_BadCircuit, ga := ga_BadCircuit, gg := gg_BadCircuit, noN := no_BadCircuit, iC := in_BadCircuit, tC := tI_BadCircuit, kC := kC_BadCircuit, exC := eC_BadCircuit, tyC := tC_BadCircuit, hdC := hC_BadCircuit, clC := cls_some hC_BadCircuit, fcl := fc_BadCircuit, mob := mo_BadCircuit, fn := ⟨_, _, _, _, _, _, _, _, _, _, _, _, _, _, lI_BadCircuit, cI_BadCircuit⟩ }
  let a : Adr := ⟨f_is_integer, (PySem.W.fnOf "is_integer" "is_integer" (defArgs s_is_integer) (defBody s_is_integer) (defScope s_is_integer) .none kV_is_integer dc_is_integer pm_is_integer an_is_integer cd_is_integer ct_is_integer), f_is_from, (PySem.W.fnOf "is_from" "is_from" (defArgs s_is_from) (defBody s_is_from) (defScope s_is_from) .none kV_is_from dc_is_from pm_is_from an_is_from cd_is_from ct_is_from), f_is_tuple, (PySem.W.fnOf "is_tuple" "is_tuple" (defArgs s_is_tuple) (defBody s_is_tuple) (defScope s_is_tuple) .none kV_is_tuple dc_is_tuple pm_is_tuple an_is_tuple cd_is_tuple ct_is_tuple), f_is_word_of, (PySem.W.fnOf "is_word_of" "is_word_of" (defArgs s_is_word_of) (defBody s_is_word_of) (defScope s_is_word_of) .none kV_is_word_of dc_is_word_of pm_is_word_of an_is_word_of cd_is_word_of ct_is_word_of), f_is_gate, (PySem.W.fnOf "is_gate" "is_gate" (defArgs s_is_gate) (defBody s_is_gate) (defScope s_is_gate) .none kV_is_gate dc_is_gate pm_is_gate an_is_gate cd_is_gate ct_is_gate), f_is_circuit_value, (PySem.W.fnOf "is_circuit_value" "is_circuit_value" (defArgs s_is_circuit_value) (defBody s_is_circuit_value) (defScope s_is_circuit_value) .none kV_is_circuit_value dc_is_circuit_value pm_is_circuit_value an_is_circuit_value cd_is_circuit_value ct_is_circuit_value), f_gate_value, (PySem.W.fnOf "gate_value" "gate_value" (defArgs s_gate_value) (defBody s_gate_value) (defScope s_gate_value) .none kV_gate_value dc_gate_value pm_gate_value an_gate_value cd_gate_value ct_gate_value), f_values_for, (PySem.W.fnOf "values_for" "values_for" (defArgs s_values_for) (defBody s_values_for) (defScope s_values_for) .none kV_values_for dc_values_for pm_values_for an_values_for cd_values_for ct_values_for), f_value_from, (PySem.W.fnOf "value_from" "value_from" (defArgs s_value_from) (defBody s_value_from) (defScope s_value_from) .none kV_value_from dc_value_from pm_value_from an_value_from cd_value_from ct_value_from), f_is_filling_value, (PySem.W.fnOf "is_filling_value" "is_filling_value" (defArgs s_is_filling_value) (defBody s_is_filling_value) (defScope s_is_filling_value) .none kV_is_filling_value dc_is_filling_value pm_is_filling_value an_is_filling_value cd_is_filling_value ct_is_filling_value), f_all_fillings, (PySem.W.fnOf "all_fillings" "all_fillings" (defArgs s_all_fillings) (defBody s_all_fillings) (defScope s_all_fillings) .none kV_all_fillings dc_all_fillings pm_all_fillings an_all_fillings cd_all_fillings ct_all_fillings), f_need_circuit, (PySem.W.fnOf "need_circuit" "need_circuit" (defArgs s_need_circuit) (defBody s_need_circuit) (defScope s_need_circuit) .none kV_need_circuit dc_need_circuit pm_need_circuit an_need_circuit cd_need_circuit ct_need_circuit), f_circuit_after, (PySem.W.fnOf "circuit_after" "circuit_after" (defArgs s_circuit_after) (defBody s_circuit_after) (defScope s_circuit_after) .none kV_circuit_after dc_circuit_after pm_circuit_after an_circuit_after cd_circuit_after ct_circuit_after), f_circuit_value, (PySem.W.fnOf "circuit_value" "circuit_value" (defArgs s_circuit_value) (defBody s_circuit_value) (defScope s_circuit_value) .none kV_circuit_value dc_circuit_value pm_circuit_value an_circuit_value cd_circuit_value ct_circuit_value), f_many_true, (PySem.W.fnOf "many_true" "many_true" (defArgs s_many_true) (defBody s_many_true) (defScope s_many_true) .none kV_many_true dc_many_true pm_many_true an_many_true cd_many_true ct_many_true), f__law_deck, (PySem.W.fnOf "_law_deck" "_law_deck" (defArgs s__law_deck) (defBody s__law_deck) (defScope s__law_deck) .none kV__law_deck dc__law_deck pm__law_deck an__law_deck cd__law_deck ct__law_deck), f__law_draw, (PySem.W.fnOf "_law_draw" "_law_draw" (defArgs s__law_draw) (defBody s__law_draw) (defScope s__law_draw) .none kV__law_draw dc__law_draw pm__law_draw an__law_draw cd__law_draw ct__law_draw), f__law_pick, (PySem.W.fnOf "_law_pick" "_law_pick" (defArgs s__law_pick) (defBody s__law_pick) (defScope s__law_pick) .none kV__law_pick dc__law_pick pm__law_pick an__law_pick cd__law_pick ct__law_pick), f__law_same, (PySem.W.fnOf "_law_same" "_law_same" (defArgs s__law_same) (defBody s__law_same) (defScope s__law_same) .none kV__law_same dc__law_same pm__law_same an__law_same cd__law_same ct__law_same), f__law_near_number, (PySem.W.fnOf "_law_near_number" "_law_near_number" (defArgs s__law_near_number) (defBody s__law_near_number) (defScope s__law_near_number) .none kV__law_near_number dc__law_near_number pm__law_near_number an__law_near_number cd__law_near_number ct__law_near_number), f__law_drawn_circuit, (PySem.W.fnOf "_law_drawn_circuit" "_law_drawn_circuit" (defArgs s__law_drawn_circuit) (defBody s__law_drawn_circuit) (defScope s__law_drawn_circuit) .none kV__law_drawn_circuit dc__law_drawn_circuit pm__law_drawn_circuit an__law_drawn_circuit cd__law_drawn_circuit ct__law_drawn_circuit), f__law_values, (PySem.W.fnOf "_law_values" "_law_values" (defArgs s__law_values) (defBody s__law_values) (defScope s__law_values) .none kV__law_values dc__law_values pm__law_values an__law_values cd__law_values ct__law_values), f__law_fillings, (PySem.W.fnOf "_law_fillings" "_law_fillings" (defArgs s__law_fillings) (defBody s__law_fillings) (defScope s__law_fillings) .none kV__law_fillings dc__law_fillings pm__law_fillings an__law_fillings cd__law_fillings ct__law_fillings), f__law_row, (PySem.W.fnOf "_law_row" "_law_row" (defArgs s__law_row) (defBody s__law_row) (defScope s__law_row) .none kV__law_row dc__law_row pm__law_row an__law_row cd__law_row ct__law_row), f__law_value, (PySem.W.fnOf "_law_value" "_law_value" (defArgs s__law_value) (defBody s__law_value) (defScope s__law_value) .none kV__law_value dc__law_value pm__law_value an__law_value cd__law_value ct__law_value), f__law_is_whole, (PySem.W.fnOf "_law_is_whole" "_law_is_whole" (defArgs s__law_is_whole) (defBody s__law_is_whole) (defScope s__law_is_whole) .none kV__law_is_whole dc__law_is_whole pm__law_is_whole an__law_is_whole cd__law_is_whole ct__law_is_whole), f__law_is_gate, (PySem.W.fnOf "_law_is_gate" "_law_is_gate" (defArgs s__law_is_gate) (defBody s__law_is_gate) (defScope s__law_is_gate) .none kV__law_is_gate dc__law_is_gate pm__law_is_gate an__law_is_gate cd__law_is_gate ct__law_is_gate), f__law_is_circuit, (PySem.W.fnOf "_law_is_circuit" "_law_is_circuit" (defArgs s__law_is_circuit) (defBody s__law_is_circuit) (defScope s__law_is_circuit) .none kV__law_is_circuit dc__law_is_circuit pm__law_is_circuit an__law_is_circuit cd__law_is_circuit ct__law_is_circuit), f__law_bent, (PySem.W.fnOf "_law_bent" "_law_bent" (defArgs s__law_bent) (defBody s__law_bent) (defScope s__law_bent) .none kV__law_bent dc__law_bent pm__law_bent an__law_bent cd__law_bent ct__law_bent), f__law_no_circuit, (PySem.W.fnOf "_law_no_circuit" "_law_no_circuit" (defArgs s__law_no_circuit) (defBody s__law_no_circuit) (defScope s__law_no_circuit) .none kV__law_no_circuit dc__law_no_circuit pm__law_no_circuit an__law_no_circuit cd__law_no_circuit ct__law_no_circuit), f__law_no_filling, (PySem.W.fnOf "_law_no_filling" "_law_no_filling" (defArgs s__law_no_filling) (defBody s__law_no_filling) (defScope s__law_no_filling) .none kV__law_no_filling dc__law_no_filling pm__law_no_filling an__law_no_filling cd__law_no_filling ct__law_no_filling), f__law_heard, (PySem.W.fnOf "_law_heard" "_law_heard" (defArgs s__law_heard) (defBody s__law_heard) (defScope s__law_heard) .none kV__law_heard dc__law_heard pm__law_heard an__law_heard cd__law_heard ct__law_heard), fa, (PySem.W.fnOf "law" "law" (defArgs s_law) (defBody s_law) (defScope s_law) .none kV_law dc_law pm_law an_law (.ref c) ct_law), C_PlayError, C_PlayError, C_BadFilling, I_BadFilling, C_BadCircuit, I_BadCircuit⟩
  have T : Tx K mg a := {
    D_is_integer := ⟨F_is_integer, PySem.W.mg_of X G a_is_integer, F_is_integer.binds (ps := ["thing"]) fun _ _ _ _ _ _ us hl => match us, hl with | [_], _ => rfl⟩,
    D_is_from := ⟨F_is_from, PySem.W.mg_of X G a_is_from, F_is_from.binds (ps := ["thing", "least"]) fun _ _ _ _ _ _ us hl => match us, hl with | [_, _], _ => rfl⟩,
    D_is_tuple := ⟨F_is_tuple, PySem.W.mg_of X G a_is_tuple, F_is_tuple.binds (ps := ["thing", "many"]) fun _ _ _ _ _ _ us hl => match us, hl with | [_, _], _ => rfl⟩,
    D_is_word_of := ⟨F_is_word_of, PySem.W.mg_of X G a_is_word_of, F_is_word_of.binds (ps := ["thing", "signs"]) fun _ _ _ _ _ _ us hl => match us, hl with | [_, _], _ => rfl⟩,
    D_is_gate := ⟨F_is_gate, PySem.W.mg_of X G a_is_gate, F_is_gate.binds (ps := ["thing", "many", "number"]) fun _ _ _ _ _ _ us hl => match us, hl with | [_, _, _], _ => rfl⟩,
    D_is_circuit_value := ⟨F_is_circuit_value, PySem.W.mg_of X G a_is_circuit_value, F_is_circuit_value.binds (ps := ["thing"]) fun _ _ _ _ _ _ us hl => match us, hl with | [_], _ => rfl⟩,
    D_gate_value := ⟨F_gate_value, PySem.W.mg_of X G a_gate_value, F_gate_value.binds (ps := ["gate", "known", "filling"]) fun _ _ _ _ _ _ us hl => match us, hl with | [_, _, _], _ => rfl⟩,
    D_values_for := ⟨F_values_for, PySem.W.mg_of X G a_values_for, F_values_for.binds (ps := ["gates", "filling"]) fun _ _ _ _ _ _ us hl => match us, hl with | [_, _], _ => rfl⟩,
    D_value_from := ⟨F_value_from, PySem.W.mg_of X G a_value_from, F_value_from.binds (ps := ["circuit", "filling"]) fun _ _ _ _ _ _ us hl => match us, hl with | [_, _], _ => rfl⟩,
    D_is_filling_value := ⟨F_is_filling_value, PySem.W.mg_of X G a_is_filling_value, F_is_filling_value.binds (ps := ["thing"]) fun _ _ _ _ _ _ us hl => match us, hl with | [_], _ => rfl⟩,
    D_all_fillings := ⟨F_all_fillings, PySem.W.mg_of X G a_all_fillings, F_all_fillings.binds (ps := ["many"]) fun _ _ _ _ _ _ us hl => match us, hl with | [_], _ => rfl⟩,
    D_need_circuit := ⟨F_need_circuit, PySem.W.mg_of X G a_need_circuit, F_need_circuit.binds (ps := ["circuit"]) fun _ _ _ _ _ _ us hl => match us, hl with | [_], _ => rfl⟩,
    D_circuit_after := ⟨F_circuit_after, PySem.W.mg_of X G a_circuit_after, F_circuit_after.binds (ps := ["circuit", "filling"]) fun _ _ _ _ _ _ us hl => match us, hl with | [_, _], _ => rfl⟩,
    D_circuit_value := ⟨F_circuit_value, PySem.W.mg_of X G a_circuit_value, F_circuit_value.binds (ps := ["circuit"]) fun _ _ _ _ _ _ us hl => match us, hl with | [_], _ => rfl⟩,
    D_many_true := ⟨F_many_true, PySem.W.mg_of X G a_many_true, F_many_true.binds (ps := ["circuit"]) fun _ _ _ _ _ _ us hl => match us, hl with | [_], _ => rfl⟩,
    D__law_deck := ⟨F__law_deck, PySem.W.mg_of X G a__law_deck, F__law_deck.binds (ps := ["script", "mixed"]) fun _ _ _ _ _ _ us hl => match us, hl with | [_, _], _ => rfl⟩,
    D__law_draw := ⟨F__law_draw, PySem.W.mg_of X G a__law_draw, F__law_draw.binds (ps := ["deck", "many"]) fun _ _ _ _ _ _ us hl => match us, hl with | [_, _], _ => rfl⟩,
    D__law_pick := ⟨F__law_pick, PySem.W.mg_of X G a__law_pick, F__law_pick.binds (ps := ["deck", "some"]) fun _ _ _ _ _ _ us hl => match us, hl with | [_, _], _ => rfl⟩,
    D__law_same := ⟨F__law_same, PySem.W.mg_of X G a__law_same, F__law_same.binds (ps := ["told", "due"]) fun _ _ _ _ _ _ us hl => match us, hl with | [_, _], _ => rfl⟩,
    D__law_near_number := ⟨F__law_near_number, PySem.W.mg_of X G a__law_near_number, F__law_near_number.binds (ps := ["deck", "g"]) fun _ _ _ _ _ _ us hl => match us, hl with | [_, _], _ => rfl⟩,
    D__law_drawn_circuit := ⟨F__law_drawn_circuit, PySem.W.mg_of X G a__law_drawn_circuit, F__law_drawn_circuit.binds (ps := ["deck", "m", "many"]) fun _ _ _ _ _ _ us hl => match us, hl with | [_, _, _], _ => rfl⟩,
    D__law_values := ⟨F__law_values, PySem.W.mg_of X G a__law_values, F__law_values.binds (ps := ["gates", "filling"]) fun _ _ _ _ _ _ us hl => match us, hl with | [_, _], _ => rfl⟩,
    D__law_fillings := ⟨F__law_fillings, PySem.W.mg_of X G a__law_fillings, F__law_fillings.binds (ps := ["m"]) fun _ _ _ _ _ _ us hl => match us, hl with | [_], _ => rfl⟩,
    D__law_row := ⟨F__law_row, PySem.W.mg_of X G a__law_row, F__law_row.binds (ps := ["circuit"]) fun _ _ _ _ _ _ us hl => match us, hl with | [_], _ => rfl⟩,
    D__law_value := ⟨F__law_value, PySem.W.mg_of X G a__law_value, F__law_value.binds (ps := ["prefix", "row"]) fun _ _ _ _ _ _ us hl => match us, hl with | [_, _], _ => rfl⟩,
    D__law_is_whole := ⟨F__law_is_whole, PySem.W.mg_of X G a__law_is_whole, F__law_is_whole.binds (ps := ["thing"]) fun _ _ _ _ _ _ us hl => match us, hl with | [_], _ => rfl⟩,
    D__law_is_gate := ⟨F__law_is_gate, PySem.W.mg_of X G a__law_is_gate, F__law_is_gate.binds (ps := ["m", "g", "thing"]) fun _ _ _ _ _ _ us hl => match us, hl with | [_, _, _], _ => rfl⟩,
    D__law_is_circuit := ⟨F__law_is_circuit, PySem.W.mg_of X G a__law_is_circuit, F__law_is_circuit.binds (ps := ["thing"]) fun _ _ _ _ _ _ us hl => match us, hl with | [_], _ => rfl⟩,
    D__law_bent := ⟨F__law_bent, PySem.W.mg_of X G a__law_bent, F__law_bent.binds (ps := ["deck", "thing"]) fun _ _ _ _ _ _ us hl => match us, hl with | [_, _], _ => rfl⟩,
    D__law_no_circuit := ⟨F__law_no_circuit, PySem.W.mg_of X G a__law_no_circuit, F__law_no_circuit.binds (ps := ["deck", "circuit"]) fun _ _ _ _ _ _ us hl => match us, hl with | [_, _], _ => rfl⟩,
    D__law_no_filling := ⟨F__law_no_filling, PySem.W.mg_of X G a__law_no_filling, F__law_no_filling.binds (ps := ["deck", "m", "is_beginning"]) fun _ _ _ _ _ _ us hl => match us, hl with | [_, _, _], _ => rfl⟩,
    D__law_heard := ⟨F__law_heard, PySem.W.mg_of X G a__law_heard, F__law_heard.binds (ps := ["call"]) fun _ _ _ _ _ _ us hl => match us, hl with | [_], _ => rfl⟩,
    D_law := ⟨F_law, PySem.W.mg_of X G a_law, F_law.binds (ps := ["script"]) fun _ _ _ _ _ _ us hl => match us, hl with | [_], _ => rfl⟩,
    b_all := PySem.W.mg_none_of X G z_all,
    b_any := PySem.W.mg_none_of X G z_any,
    b_bool := PySem.W.mg_none_of X G z_bool,
    b_enumerate := PySem.W.mg_none_of X G z_enumerate,
    b_int := PySem.W.mg_none_of X G z_int,
    b_isinstance := PySem.W.mg_none_of X G z_isinstance,
    b_len := PySem.W.mg_none_of X G z_len,
    b_list := PySem.W.mg_none_of X G z_list,
    b_max := PySem.W.mg_none_of X G z_max,
    b_range := PySem.W.mg_none_of X G z_range,
    b_repr := PySem.W.mg_none_of X G z_repr,
    b_str := PySem.W.mg_none_of X G z_str,
    b_tuple := PySem.W.mg_none_of X G z_tuple,
    b_zip := PySem.W.mg_none_of X G z_zip,
    g_LETTERS_OF_FILLINGS_circuitwork := ⟨_, PySem.W.mg_of X G g_LETTERS_OF_FILLINGS_circuitwork, ⟨_, rfl⟩⟩,
    g_JOINING := ⟨p_JOINING, [.str "and", .str "or"], PySem.W.mg_of X G g_JOINING, fun H => .inr ⟨_, _, _, gl_JOINING, rfl, rfl, (by show 2 ≤ sizeLine; decide), .cons ⟨_, rfl⟩ (.cons ⟨_, rfl⟩ (.nil))⟩, fun H => .cons (.str _) (.cons (.str _) (.nil))⟩,
    g_LETTERS_OF_FILLINGS_formulawork := ⟨_, PySem.W.mg_of X G g_LETTERS_OF_FILLINGS_formulawork, ⟨_, rfl⟩⟩,
    X_BadFilling := E_BadFilling,
    X_BadCircuit := E_BadCircuit,
    kw_circuit_after_filling_circuit := kwo2_1_0 fun s us hl => match us, hl with | [_, _], _ => .of_eq rfl,
    kw_circuit_value_circuit := kwo1_0 fun s us hl => match us, hl with | [_], _ => .of_eq rfl,
    kw_many_true_circuit := kwo1_0 fun s us hl => match us, hl with | [_], _ => .of_eq rfl }
  have apart : Apart K (clsK C_BadCircuit C_BadFilling) := by
    intro k hk k' hk'
    simp only [clsK, List.mem_cons, List.not_mem_nil, or_false] at hk hk'
    have n1 : C_BadCircuit ≠ C_BadFilling := of_decide_eq_false ne_BadCircuit_BadFilling
    rcases hk with rfl | rfl <;> rcases hk' with rfl | rfl
    · rw [PySem.W.exm_ref eC_BadCircuit hC_BadCircuit tC_BadCircuit su_BadCircuit_BadCircuit]; simp
    · rw [PySem.W.exm_ref eC_BadFilling hC_BadFilling tC_BadFilling su_BadCircuit_BadFilling]; simp [n1]
    · rw [PySem.W.exm_ref eC_BadCircuit hC_BadCircuit tC_BadCircuit su_BadFilling_BadCircuit]; simp [Ne.symm n1]
    · rw [PySem.W.exm_ref eC_BadFilling hC_BadFilling tC_BadFilling su_BadFilling_BadFilling]; simp
  have Z : Hx K mg a := ⟨⟨⟨ga_BadCircuit, gg_BadCircuit, eC_BadCircuit, hC_BadCircuit⟩, no_BadCircuit, ⟨ga_BadCircuit, gg_BadCircuit, eC_BadCircuit, hC_BadCircuit, fc_BadCircuit, hn, ht, mo_BadCircuit⟩⟩, ⟨⟨ga_BadFilling, gg_BadFilling, eC_BadFilling, hC_BadFilling⟩, no_BadFilling, ⟨ga_BadFilling, gg_BadFilling, eC_BadFilling, hC_BadFilling, fc_BadFilling, hn, ht, mo_BadFilling⟩⟩, PySem.W.mg_of X G a_PlayError, kit_of tP hP sp_BadCircuit, kit_of tP hP sp_BadFilling, apart, of_decide_eq_false ne_BadCircuit_BadFilling, PySem.W.mg_none_of X G z_isinstance⟩
  exact ⟨c, Pt, tab_in a_law l_law lcode l11, tabK, fun sc ns s hl => run_law T Z l_law c_law hl⟩
end K66
open PySem PySem.W PyProof.Rows
set_option maxRecDepth 100000 in
set_option maxHeartbeats 0 in
theorem PySem.Challenge.cw_provenplay_k66_circuits_after_beginnings_holds : PySem.Challenge.rw_provenplay_k66_circuits_after_beginnings.Holds := by
  w_on; o_law; k_head; (case hw => w_witness2)
  k_fill
  refine DL.walk_run (l := PySem.Challenge.rw_provenplay_k66_circuits_after_beginnings) rfl (by decide) rfl (by decide +kernel) (fun w h Y => PySem.W.km_in_of Y) ?F
  case F =>
    intro w mg fa h KX G hmg
    refine' K66.all_mk KX G hmg ?a_is_integer ?l_is_integer ?c_is_integer ?k_is_integer ?a_is_from ?l_is_from ?c_is_from ?k_is_from ?a_is_tuple ?l_is_tuple ?c_is_tuple ?k_is_tuple ?a_is_word_of ?l_is_word_of ?c_is_word_of ?k_is_word_of ?a_is_gate ?l_is_gate ?c_is_gate ?k_is_gate ?a_is_circuit_value ?l_is_circuit_value ?c_is_circuit_value ?k_is_circuit_value ?a_gate_value ?l_gate_value ?c_gate_value ?k_gate_value ?a_values_for ?l_values_for ?c_values_for ?k_values_for ?a_value_from ?l_value_from ?c_value_from ?k_value_from ?a_is_filling_value ?l_is_filling_value ?c_is_filling_value ?k_is_filling_value ?a_all_fillings ?l_all_fillings ?c_all_fillings ?k_all_fillings ?a_need_circuit ?l_need_circuit ?c_need_circuit ?k_need_circuit ?a_circuit_after ?l_circuit_after ?c_circuit_after ?k_circuit_after ?a_circuit_value ?l_circuit_value ?c_circuit_value ?k_circuit_value ?a_many_true ?l_many_true ?c_many_true ?k_many_true ?a__law_deck ?l__law_deck ?c__law_deck ?k__law_deck ?a__law_draw ?l__law_draw ?c__law_draw ?k__law_draw ?a__law_pick ?l__law_pick ?c__law_pick ?k__law_pick ?a__law_same ?l__law_same ?c__law_same ?k__law_same ?a__law_near_number ?l__law_near_number ?c__law_near_number ?k__law_near_number ?a__law_drawn_circuit ?l__law_drawn_circuit ?c__law_drawn_circuit ?k__law_drawn_circuit ?a__law_values ?l__law_values ?c__law_values ?k__law_values ?a__law_fillings ?l__law_fillings ?c__law_fillings ?k__law_fillings ?a__law_row ?l__law_row ?c__law_row ?k__law_row ?a__law_value ?l__law_value ?c__law_value ?k__law_value ?a__law_is_whole ?l__law_is_whole ?c__law_is_whole ?k__law_is_whole ?a__law_is_gate ?l__law_is_gate ?c__law_is_gate ?k__law_is_gate ?a__law_is_circuit ?l__law_is_circuit ?c__law_is_circuit ?k__law_is_circuit ?a__law_bent ?l__law_bent ?c__law_bent ?k__law_bent ?a__law_no_circuit ?l__law_no_circuit ?c__law_no_circuit ?k__law_no_circuit ?a__law_no_filling ?l__law_no_filling ?c__law_no_filling ?k__law_no_filling ?a__law_heard ?l__law_heard ?c__law_heard ?k__law_heard ?a_law ?l_law ?c_law ?k_law ?lcode ?l11 ?tabK ?z_all ?z_any ?z_bool ?z_enumerate ?z_int ?z_isinstance ?z_len ?z_list ?z_max ?z_range ?z_repr ?z_str ?z_tuple ?z_zip ?g_LETTERS_OF_FILLINGS_circuitwork ?g_JOINING ?gl_JOINING ?g_LETTERS_OF_FILLINGS_formulawork ?a_PlayError ?a_BadFilling ?xL_BadFilling ?ov_BadFilling ?sa_BadFilling ?ga_BadFilling ?gg_BadFilling ?no_BadFilling ?in_BadFilling ?fc_BadFilling ?tI_BadFilling ?kC_BadFilling ?eC_BadFilling ?tC_BadFilling ?hC_BadFilling ?mo_BadFilling ?lI_BadFilling ?cI_BadFilling ?a_BadCircuit ?xL_BadCircuit ?ov_BadCircuit ?sa_BadCircuit ?ga_BadCircuit ?gg_BadCircuit ?no_BadCircuit ?in_BadCircuit ?fc_BadCircuit ?tI_BadCircuit ?kC_BadCircuit ?eC_BadCircuit ?tC_BadCircuit ?hC_BadCircuit ?mo_BadCircuit ?lI_BadCircuit ?cI_BadCircuit ?hn ?ht ?tP ?hP ?sp_BadCircuit ?sp_BadFilling ?su_BadCircuit_BadCircuit ?su_BadCircuit_BadFilling ?su_BadFilling_BadCircuit ?su_BadFilling_BadFilling ?ne_BadCircuit_BadFilling
    (case a_is_integer => k_is)
    (case l_is_integer => k_is)
    (case c_is_integer => k_is)
    (case k_is_integer => k_is)
    (case a_is_from => k_is)
    (case l_is_from => k_is)
    (case c_is_from => k_is)
    (case k_is_from => k_is)
    (case a_is_tuple => k_is)
    (case l_is_tuple => k_is)
    (case c_is_tuple => k_is)
    (case k_is_tuple => k_is)
    (case a_is_word_of => k_is)
    (case l_is_word_of => k_is)
    (case c_is_word_of => k_is)
    (case k_is_word_of => k_is)
    (case a_is_gate => k_is)
    (case l_is_gate => k_is)
    (case c_is_gate => k_is)
    (case k_is_gate => k_is)
    (case a_is_circuit_value => k_is)
    (case l_is_circuit_value => k_is)
    (case c_is_circuit_value => k_is)
    (case k_is_circuit_value => k_is)
    (case a_gate_value => k_is)
    (case l_gate_value => k_is)
    (case c_gate_value => k_is)
    (case k_gate_value => k_is)
    (case a_values_for => k_is)
    (case l_values_for => k_is)
    (case c_values_for => k_is)
    (case k_values_for => k_is)
    (case a_value_from => k_is)
    (case l_value_from => k_is)
    (case c_value_from => k_is)
    (case k_value_from => k_is)
    (case a_is_filling_value => k_is)
    (case l_is_filling_value => k_is)
    (case c_is_filling_value => k_is)
    (case k_is_filling_value => k_is)
    (case a_all_fillings => k_is)
    (case l_all_fillings => k_is)
    (case c_all_fillings => k_is)
    (case k_all_fillings => k_is)
    (case a_need_circuit => k_is)
    (case l_need_circuit => k_is)
    (case c_need_circuit => k_is)
    (case k_need_circuit => k_is)
    (case a_circuit_after => k_is)
    (case l_circuit_after => k_is)
    (case c_circuit_after => k_is)
    (case k_circuit_after => k_is)
    (case a_circuit_value => k_is)
    (case l_circuit_value => k_is)
    (case c_circuit_value => k_is)
    (case k_circuit_value => k_is)
    (case a_many_true => k_is)
    (case l_many_true => k_is)
    (case c_many_true => k_is)
    (case k_many_true => k_is)
    (case a__law_deck => k_is)
    (case l__law_deck => k_is)
    (case c__law_deck => k_is)
    (case k__law_deck => k_is)
    (case a__law_draw => k_is)
    (case l__law_draw => k_is)
    (case c__law_draw => k_is)
    (case k__law_draw => k_is)
    (case a__law_pick => k_is)
    (case l__law_pick => k_is)
    (case c__law_pick => k_is)
    (case k__law_pick => k_is)
    (case a__law_same => k_is)
    (case l__law_same => k_is)
    (case c__law_same => k_is)
    (case k__law_same => k_is)
    (case a__law_near_number => k_is)
    (case l__law_near_number => k_is)
    (case c__law_near_number => k_is)
    (case k__law_near_number => k_is)
    (case a__law_drawn_circuit => k_is)
    (case l__law_drawn_circuit => k_is)
    (case c__law_drawn_circuit => k_is)
    (case k__law_drawn_circuit => k_is)
    (case a__law_values => k_is)
    (case l__law_values => k_is)
    (case c__law_values => k_is)
    (case k__law_values => k_is)
    (case a__law_fillings => k_is)
    (case l__law_fillings => k_is)
    (case c__law_fillings => k_is)
    (case k__law_fillings => k_is)
    (case a__law_row => k_is)
    (case l__law_row => k_is)
    (case c__law_row => k_is)
    (case k__law_row => k_is)
    (case a__law_value => k_is)
    (case l__law_value => k_is)
    (case c__law_value => k_is)
    (case k__law_value => k_is)
    (case a__law_is_whole => k_is)
    (case l__law_is_whole => k_is)
    (case c__law_is_whole => k_is)
    (case k__law_is_whole => k_is)
    (case a__law_is_gate => k_is)
    (case l__law_is_gate => k_is)
    (case c__law_is_gate => k_is)
    (case k__law_is_gate => k_is)
    (case a__law_is_circuit => k_is)
    (case l__law_is_circuit => k_is)
    (case c__law_is_circuit => k_is)
    (case k__law_is_circuit => k_is)
    (case a__law_bent => k_is)
    (case l__law_bent => k_is)
    (case c__law_bent => k_is)
    (case k__law_bent => k_is)
    (case a__law_no_circuit => k_is)
    (case l__law_no_circuit => k_is)
    (case c__law_no_circuit => k_is)
    (case k__law_no_circuit => k_is)
    (case a__law_no_filling => k_is)
    (case l__law_no_filling => k_is)
    (case c__law_no_filling => k_is)
    (case k__law_no_filling => k_is)
    (case a__law_heard => k_is)
    (case l__law_heard => k_is)
    (case c__law_heard => k_is)
    (case k__law_heard => k_is)
    (case a_law => k_is)
    (case l_law => k_is)
    (case c_law => k_is)
    (case k_law => k_is)
    (case lcode => k_is)
    (case l11 => rfl)
    (case tabK => rfl)
    (case z_all => k_is)
    (case z_any => k_is)
    (case z_bool => k_is)
    (case z_enumerate => k_is)
    (case z_int => k_is)
    (case z_isinstance => k_is)
    (case z_len => k_is)
    (case z_list => k_is)
    (case z_max => k_is)
    (case z_range => k_is)
    (case z_repr => k_is)
    (case z_str => k_is)
    (case z_tuple => k_is)
    (case z_zip => k_is)
    (case g_LETTERS_OF_FILLINGS_circuitwork => k_is)
    (case g_JOINING => k_is)
    (case gl_JOINING => k_is)
    (case g_LETTERS_OF_FILLINGS_formulawork => k_is)
    (case a_PlayError => k_is)
    (case a_BadFilling => k_is)
    (case xL_BadFilling => k_is)
    (case ov_BadFilling => rfl)
    (case sa_BadFilling => k_is)
    (case ga_BadFilling => k_is)
    (case gg_BadFilling => k_is)
    (case no_BadFilling => k_is)
    (case in_BadFilling => k_is)
    (case fc_BadFilling => k_is)
    (case tI_BadFilling => k_is)
    (case kC_BadFilling => k_is)
    (case eC_BadFilling => k_is)
    (case tC_BadFilling => k_is)
    (case hC_BadFilling => k_is)
    (case mo_BadFilling => k_is)
    (case lI_BadFilling => k_is)
    (case cI_BadFilling => k_is)
    (case a_BadCircuit => k_is)
    (case xL_BadCircuit => k_is)
    (case ov_BadCircuit => rfl)
    (case sa_BadCircuit => k_is)
    (case ga_BadCircuit => k_is)
    (case gg_BadCircuit => k_is)
    (case no_BadCircuit => k_is)
    (case in_BadCircuit => k_is)
    (case fc_BadCircuit => k_is)
    (case tI_BadCircuit => k_is)
    (case kC_BadCircuit => k_is)
    (case eC_BadCircuit => k_is)
    (case tC_BadCircuit => k_is)
    (case hC_BadCircuit => k_is)
    (case mo_BadCircuit => k_is)
    (case lI_BadCircuit => k_is)
    (case cI_BadCircuit => k_is)
    (case hn => k_is)
    (case ht => k_is)
    (case tP => k_is)
    (case hP => k_is)
    (case sp_BadCircuit => k_is)
    (case sp_BadFilling => k_is)
    (case su_BadCircuit_BadCircuit => k_is)
    (case su_BadCircuit_BadFilling => k_is)
    (case su_BadFilling_BadCircuit => k_is)
    (case su_BadFilling_BadFilling => k_is)
    (case ne_BadCircuit_BadFilling => rfl)
