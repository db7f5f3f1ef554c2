import PyProof.Rows.All
import Wide.All
import OpenK.AllK
import Wide.FinOn
import HandS.ForMost
import HandS.Star
import HandS.Zip
import HandS.SortInts
import HandS.Wide
import HandS.Flow
import HandS.TupAny
import HandS.Deep
import HandS.Style
import HandS.IsInst
import KE.DataMinMax
import KE.DatumOrd
import KE.KTupSum
import HandS.NoneIn
import HandS.More
import HandS.SetFor
import HandS.Strs
import HandS.Conv
import PySem.Challenge.RW_cutsmaller_k92_whole_fillings_as_sets_pu
set_option Elab.async false
set_option linter.all false
set_option maxRecDepth 100000
set_option maxHeartbeats 4000000
/-! A layer of data over the hand layer: slots hold data, lists of one's own, or things of one's own. -/
namespace Cu
open PySem PySem.Spec PyProof.Rows L2

abbrev PD := PyData
/-! ### heaps that grow -/
def Ex (H H' : Hp) : Prop := ∀ a o, H a = some o → H' a = some o
theorem Ex.refl (H : Hp) : Ex H H := fun _ _ h => h
theorem Ex.trans {H H1 H2 : Hp} (a : Ex H H1) (b : Ex H1 H2) : Ex H H2 := fun x o h => b x o (a x o h)
theorem Ex.new {H : Hp} {p : Addr} {o : HO} (h : H p = none) : Ex H (upd H p o) := fun a u e => by
  rw [upd_ne (ne_of_none e h)]
  exact e
theorem Ex.back {H H' : Hp} (e : Ex H H') {p : Addr} (h : H' p = none) : H p = none := by
  cases q : H p with
  | none => rfl
  | some o => rw [e p o q] at h; cases h
theorem ex_rd {H H' : Hp} {a : Addr} {u : HO} (e : Ex H H') (h : Rd H a u) : Rd H' a u := by
  rcases h with h | ⟨o, h⟩
  · exact .inl (e a _ h)
  · exact .inr ⟨o, e a _ h⟩
theorem ex_l {K : PySem.W.Frag} {H H' : Hp} {a : Addr} {xs : List V} (e : Ex H H') (h : SqL K H a xs) : SqL K H' a xs := by
  rcases h with h | h
  · exact .inl (ex_rd e h)
  · exact .inr h
theorem ex_t {K : PySem.W.Frag} {H H' : Hp} {a : Addr} {xs : List V} (e : Ex H H') (h : SqT K H a xs) : SqT K H' a xs := by
  rcases h with h | h
  · exact .inl (ex_rd e h)
  · exact .inr h
mutual
/-- a value that is data: every list stands in the heap itself -/
inductive Dd (K : PySem.W.Frag) (H : Hp) : V → PD → Prop
  | non : Dd K H .non .none
  | bl (b : Bool) : Dd K H (.bl b) (.bool b)
  | int (i : Int) : Dd K H (.int i) (.int i)
  | str (x : Str) : Dd K H (.str x) (.str x)
  | lst {a : Addr} {xs : List V} {ds : List PD} : H a = some (.lst xs) → DdAll K H xs ds → Dd K H (.ref a) (.list ds)
  | tup {a : Addr} {xs : List V} {ds : List PD} : H a = some (.tup xs) → DdAll K H xs ds → Dd K H (.ref a) (.tuple ds)
inductive DdAll (K : PySem.W.Frag) (H : Hp) : List V → List PD → Prop
  | nil : DdAll K H [] []
  | cons {v : V} {vs : List V} {d : PD} {ds : List PD} : Dd K H v d → DdAll K H vs ds → DdAll K H (v :: vs) (d :: ds)
end
section
variable {K : PySem.W.Frag} {G G' : Hp}
mutual
theorem dd_dp : ∀ (d : PD) (v : V), Dd K G v d → Dp K G v d
  | .none, _, h => by cases h; exact .non
  | .bool b, _, h => by cases h; exact .bl b
  | .int i, _, h => by cases h; exact .int i
  | .str x, _, h => by cases h; exact .str x
  | .list ds, _, h => by
    cases h with
    | lst hs ha => exact .lst (SqL.of hs) (dda_dp ds _ ha)
  | .tuple ds, _, h => by
    cases h with
    | tup hs ha => exact .tup (SqT.of hs) (dda_dp ds _ ha)
  | .dict _, _, h => by cases h
theorem dda_dp : ∀ (ds : List PD) (vs : List V), DdAll K G vs ds → DpAll K G vs ds
  | [], _, h => by cases h; exact .nil
  | d :: ds, _, h => by
    cases h with
    | cons h1 h2 => exact .cons (dd_dp d _ h1) (dda_dp ds _ h2)
end
mutual
theorem dp_mono (e : Ex G G') : ∀ (d : PD) (v : V), Dd K G v d → Dd K G' v d
  | .none, _, h => by cases h; exact .non
  | .bool b, _, h => by cases h; exact .bl b
  | .int i, _, h => by cases h; exact .int i
  | .str x, _, h => by cases h; exact .str x
  | .list ds, _, h => by
    cases h with
    | lst hs ha => exact .lst (e _ _ hs) (dpa_mono e ds _ ha)
  | .tuple ds, _, h => by
    cases h with
    | tup hs ha => exact .tup (e _ _ hs) (dpa_mono e ds _ ha)
  | .dict _, _, h => by cases h
theorem dpa_mono (e : Ex G G') : ∀ (ds : List PD) (vs : List V), DdAll K G vs ds → DdAll K G' vs ds
  | [], _, h => by cases h; exact .nil
  | d :: ds, _, h => by
    cases h with
    | cons h1 h2 => exact .cons (dp_mono e d _ h1) (dpa_mono e ds _ h2)
end
theorem dpa_app : ∀ {vs ws : List V} {ds es : List PD}, DdAll K G vs ds → DdAll K G ws es → DdAll K G (vs ++ ws) (ds ++ es)
  | _, _, _, _, .nil, h => h
  | _, _, _, _, .cons h t, h2 => .cons h (dpa_app t h2)
theorem dpa_len : ∀ {vs : List V} {ds : List PD}, DdAll K G vs ds → vs.length = ds.length
  | _, _, .nil => rfl
  | _, _, .cons _ t => by rw [List.length_cons, List.length_cons, dpa_len t]
theorem dpa_get : ∀ {vs : List V} {ds : List PD} {i : Nat} {d : PD}, DdAll K G vs ds → ds[i]? = some d → ∃ v, vs[i]? = some v ∧ Dd K G v d
  | _, _, _, _, .nil, h => by simp at h
  | _, _, 0, _, .cons h _, e => by simp at e; subst e; exact ⟨_, rfl, h⟩
  | _, _, i + 1, _, .cons _ t, e => by
    obtain ⟨v, h1, h2⟩ := dpa_get (i := i) t (by simpa using e)
    exact ⟨v, by simpa using h1, h2⟩
theorem dpa_at : ∀ {vs : List V} {ds : List PD} {i : Nat} {v : V}, DdAll K G vs ds → vs[i]? = some v → ∃ d, ds[i]? = some d ∧ Dd K G v d
  | _, _, _, _, .nil, h => by simp at h
  | _, _, 0, _, .cons h _, e => by simp at e; subst e; exact ⟨_, rfl, h⟩
  | _, _, i + 1, _, .cons _ t, e => by
    obtain ⟨d, h1, h2⟩ := dpa_at (i := i) t (by simpa using e)
    exact ⟨d, by simpa using h1, h2⟩
theorem dpa_take : ∀ {vs : List V} {ds : List PD} (n : Nat), DdAll K G vs ds → DdAll K G (vs.take n) (ds.take n)
  | _, _, 0, _ => .nil
  | _, _, _ + 1, .nil => .nil
  | _, _, n + 1, .cons h t => .cons h (dpa_take n t)
theorem dpa_drop : ∀ {vs : List V} {ds : List PD} (n : Nat), DdAll K G vs ds → DdAll K G (vs.drop n) (ds.drop n)
  | _, _, 0, h => h
  | _, _, _ + 1, .nil => .nil
  | _, _, n + 1, .cons _ t => dpa_drop n t
theorem dpa_set : ∀ {vs : List V} {ds : List PD} {v : V} {d : PD} (n : Nat), DdAll K G vs ds → Dd K G v d → DdAll K G (vs.set n v) (ds.set n d)
  | _, _, _, _, _, .nil, _ => .nil
  | _, _, _, _, 0, .cons _ t, h => .cons h t
  | _, _, _, _, n + 1, .cons h t, h2 => .cons h (dpa_set n t h2)
theorem dpa_rev : ∀ {vs : List V} {ds : List PD}, DdAll K G vs ds → DdAll K G vs.reverse ds.reverse
  | _, _, .nil => .nil
  | _, _, .cons h t => by
    rw [List.reverse_cons, List.reverse_cons]
    exact dpa_app (dpa_rev t) (.cons h .nil)
theorem dpa_ints : ∀ {vs : List V} {ns : List Int}, DdAll K G vs (ns.map PyData.int) → vs = ns.map V.int
  | _, [], h => by cases h; rfl
  | _, n :: ns, h => by
    cases h with
    | cons h1 h2 =>
      cases h1
      rw [List.map_cons, dpa_ints h2]
theorem dpa_of_ints : ∀ (ns : List Int), DdAll K G (ns.map V.int) (ns.map PyData.int)
  | [] => .nil
  | n :: ns => .cons (.int n) (dpa_of_ints ns)
theorem dpa_bools : ∀ {vs : List V} {ns : List Bool}, DdAll K G vs (ns.map PyData.bool) → vs = ns.map V.bl
  | _, [], h => by cases h; rfl
  | _, n :: ns, h => by
    cases h with
    | cons h1 h2 =>
      cases h1
      rw [List.map_cons, dpa_bools h2]
theorem dpa_strs : ∀ {vs : List V} {ns : List Str}, DdAll K G vs (ns.map PyData.str) → vs = ns.map V.str
  | _, [], h => by cases h; rfl
  | _, n :: ns, h => by
    cases h with
    | cons h1 h2 =>
      cases h1
      rw [List.map_cons, dpa_strs h2]
theorem dpa_of_strs : ∀ (ns : List Str), DdAll K G (ns.map V.str) (ns.map PyData.str)
  | [] => .nil
  | n :: ns => .cons (.str n) (dpa_of_strs ns)
end

/-! ### slots, worlds -/
structure Res where
  val : V
  rel : PySem.W.Frag → V → List Addr → Hp → Hp → Prop
  mono : ∀ {K : PySem.W.Frag} {v : V} {fp : List Addr} {G H G' H' : Hp}, rel K v fp G H → Ex G G' → (∀ a, a ∈ fp → H' a = H a) → rel K v fp G' H'
  isv : ∀ {K : PySem.W.Frag} {v : V} {fp : List Addr} {G H : Hp}, rel K v fp G H → v = val
inductive Slot where
  | no
  | pub (d : PD)
  | lst (ds : List PD)
  | own (R : Res)
/-- G: what never changes; H: all; F: what the slots own -/
structure Wd where
  G : Hp
  H : Hp
  F : Nat → List Addr
def SlotOk (K : PySem.W.Frag) (w : Wd) : Slot → Option V → List Addr → Prop
  | .no, _, _ => True
  | .pub d, o, _ => ∃ v, o = some v ∧ Dd K w.G v d
  | .lst ds, o, fp => ∃ l vs, o = some (.ref l) ∧ fp = [l] ∧ w.H l = some (.lst vs) ∧ DdAll K w.G vs ds
  | .own R, o, fp => ∃ v, o = some v ∧ R.rel K v fp w.G w.H
structure Cfg (K : PySem.W.Frag) (ρ : List Slot) (σ : L2.St) (w : Wd) : Prop where
  ex : Ex w.G w.H
  priv : ∀ i a, a ∈ w.F i → w.G a = none ∧ w.H a ≠ none
  disj : ∀ i j a, a ∈ w.F i → a ∈ w.F j → i = j
  len : ρ.length = σ.length
  slot : ∀ i s o, ρ[i]? = some s → σ[i]? = some o → SlotOk K w s o (w.F i)
structure Ext (w w' : Wd) : Prop where
  gg : Ex w.G w'.G
  keep : ∀ a o, w.H a = some o → (∀ i, a ∉ w.F i) → w'.H a = some o
  out : ∀ a, w.H a ≠ none → w.G a = none → (∀ i, a ∉ w.F i) → w'.G a = none
  dom : ∀ a, w.H a ≠ none → w'.H a ≠ none
  fps : ∀ i a, a ∈ w'.F i → (∃ j, a ∈ w.F j) ∨ w.H a = none
theorem Ext.refl (w : Wd) : Ext w w := ⟨Ex.refl _, fun _ _ h _ => h, fun _ _ h _ => h, fun _ h => h, fun i _ h => .inl ⟨i, h⟩⟩
theorem Ext.nf {w w' : Wd} (e : Ext w w') {a : Addr} (h : w.H a ≠ none) (hf : ∀ i, a ∉ w.F i) : ∀ i, a ∉ w'.F i := fun i hi => by
  rcases e.fps i a hi with ⟨j, hj⟩ | hn
  · exact hf j hj
  · exact h hn
theorem Ext.trans {w w1 w2 : Wd} (a : Ext w w1) (b : Ext w1 w2) : Ext w w2 where
  gg := a.gg.trans b.gg
  keep := fun x o h hf => b.keep x o (a.keep x o h hf) (a.nf (by rw [h]; exact fun z => nomatch z) hf)
  out := fun x h hg hf => b.out x (a.dom x h) (a.out x h hg hf) (a.nf h hf)
  dom := fun x h => b.dom x (a.dom x h)
  fps := fun i x h => by
    rcases b.fps i x h with ⟨j, hj⟩ | hn
    · exact a.fps j x hj
    · exact .inr (Classical.byContradiction fun z => a.dom x z hn)
theorem Ext.back {w w' : Wd} (e : Ext w w') {a : Addr} (h : w'.H a = none) : w.H a = none := Classical.byContradiction fun z => e.dom a z h
/-- a step that leaves what the slots own -/
theorem Cfg.step {K : PySem.W.Frag} {ρ : List Slot} {σ : L2.St} {w : Wd} {G' H' : Hp} (c : Cfg K ρ σ w) (eg : Ex w.G G') (ex : Ex G' H') (hF : ∀ i a, a ∈ w.F i → H' a = w.H a ∧ G' a = none) : Cfg K ρ σ ⟨G', H', w.F⟩ := by
  refine ⟨ex, fun i a h => ⟨(hF i a h).2, ?_⟩, c.disj, c.len, fun i s o h1 h2 => ?_⟩
  · show H' a ≠ none
    rw [(hF i a h).1]
    exact (c.priv i a h).2
  · have q := c.slot i s o h1 h2
    cases s with
    | no => trivial
    | pub d =>
      obtain ⟨v, e, hd⟩ := q
      exact ⟨v, e, dp_mono eg d v hd⟩
    | lst ds =>
      obtain ⟨l, vs, e, ef, hl, hd⟩ := q
      refine ⟨l, vs, e, ef, ?_, dpa_mono eg ds vs hd⟩
      show H' l = _
      rw [(hF i l (by rw [ef]; exact List.mem_singleton.mpr rfl)).1]
      exact hl
    | own R =>
      obtain ⟨v, e, hr⟩ := q
      exact ⟨v, e, R.mono hr eg fun a ha => (hF i a ha).1⟩
/-- a new object, not public -/
theorem Cfg.new {K : PySem.W.Frag} {ρ : List Slot} {σ : L2.St} {w : Wd} {p : Addr} {o : HO} (c : Cfg K ρ σ w) (hp : w.H p = none) : Cfg K ρ σ ⟨w.G, upd w.H p o, w.F⟩ :=
  c.step (Ex.refl _) (c.ex.trans (Ex.new hp)) fun i a h => ⟨upd_ne (fun z => (c.priv i a h).2 (by rw [z]; exact hp)), (c.priv i a h).1⟩
theorem Ext.new {w : Wd} {p : Addr} {o : HO} (hp : w.H p = none) : Ext w ⟨w.G, upd w.H p o, w.F⟩ :=
  ⟨Ex.refl _, fun a u h _ => Ex.new hp a u h, fun _ _ h _ => h, fun a h => by
    show upd w.H p o a ≠ none
    by_cases e : a = p
    · rw [e, upd_same]; exact fun z => nomatch z
    · rw [upd_ne e]; exact h, fun i _ h => .inl ⟨i, h⟩⟩
/-- a new public object -/
theorem Cfg.newP {K : PySem.W.Frag} {ρ : List Slot} {σ : L2.St} {w : Wd} {p : Addr} {o : HO} (c : Cfg K ρ σ w) (hp : w.H p = none) : Cfg K ρ σ ⟨upd w.G p o, upd w.H p o, w.F⟩ := by
  have hg : w.G p = none := c.ex.back hp
  refine c.step (Ex.new hg) (fun a u h => ?_) fun i a h => ?_
  · by_cases e : a = p
    · subst e; rw [upd_same] at h ⊢; exact h
    · rw [upd_ne e] at h ⊢; exact c.ex a u h
  · have ne : a ≠ p := fun z => (c.priv i a h).2 (by rw [z]; exact hp)
    exact ⟨upd_ne ne, by rw [upd_ne ne]; exact (c.priv i a h).1⟩
theorem Ext.newP {w : Wd} {p : Addr} {o : HO} (ex : Ex w.G w.H) (hp : w.H p = none) : Ext w ⟨upd w.G p o, upd w.H p o, w.F⟩ := by
  have hg : w.G p = none := ex.back hp
  refine ⟨Ex.new hg, fun a u h _ => Ex.new hp a u h, fun a h hn _ => ?_, fun a h => ?_, fun i _ h => .inl ⟨i, h⟩⟩
  · have ne : a ≠ p := fun z => h (by rw [z]; exact hp)
    show upd w.G p o a = none
    rw [upd_ne ne]; exact hn
  · show upd w.H p o a ≠ none
    by_cases e : a = p
    · rw [e, upd_same]; exact fun z => nomatch z
    · rw [upd_ne e]; exact h

/-! ### values of expressions -/
inductive DV where
  | dat (d : PD)
  | fr (ds : List PD)
  | slt (i : Nat)
def ValOk (K : PySem.W.Frag) (σ : L2.St) (w w' : Wd) : V → DV → Prop
  | v, .dat d => Dd K w'.G v d
  | v, .fr ds => ∃ l vs, v = .ref l ∧ w.H l = none ∧ w'.H l = some (.lst vs) ∧ w'.G l = none ∧ (∀ i, l ∉ w'.F i) ∧ DdAll K w'.G vs ds
  | v, .slt i => σ[i]? = some (some v)
theorem ValOk.mono {K : PySem.W.Frag} {σ : L2.St} {w w1 w2 : Wd} {v : V} : ∀ {dv : DV}, ValOk K σ w w1 v dv → Ext w1 w2 → ValOk K σ w w2 v dv
  | .dat d, h, e => dp_mono e.gg d v h
  | .slt i, h, _ => h
  | .fr ds, h, e => by
    obtain ⟨l, vs, ev, h0, h1, h2, h3, h4⟩ := h
    have hn : w1.H l ≠ none := by rw [h1]; exact fun z => nomatch z
    exact ⟨l, vs, ev, h0, e.keep l _ h1 h3, e.out l hn h2 h3, e.nf hn h3, dpa_mono e.gg ds vs h4⟩
theorem ValOk.pre {K : PySem.W.Frag} {σ : L2.St} {w0 w w1 : Wd} {v : V} : ∀ {dv : DV}, ValOk K σ w w1 v dv → Ext w0 w → ValOk K σ w0 w1 v dv
  | .dat d, h, _ => h
  | .slt i, h, _ => h
  | .fr ds, h, e => by
    obtain ⟨l, vs, ev, h0, h⟩ := h
    exact ⟨l, vs, ev, e.back h0, h⟩
/-- what may be read of a value: its own object may be anyone's, its items never change -/
def ShRd (K : PySem.W.Frag) (w : Wd) (v : V) : PD → Prop
  | .list ds => ∃ l vs, v = .ref l ∧ w.H l = some (.lst vs) ∧ DdAll K w.G vs ds
  | d => Dd K w.G v d
theorem ShRd.of_dp {K : PySem.W.Frag} {w : Wd} {v : V} {d : PD} (ex : Ex w.G w.H) (h : Dd K w.G v d) : ShRd K w v d := by
  cases h with
  | lst hs ha => exact ⟨_, _, rfl, ex _ _ hs, ha⟩
  | tup hs ha => exact .tup hs ha
  | non => exact .non
  | bl b => exact .bl b
  | int i => exact .int i
  | str x => exact .str x
theorem ShRd.dpH {K : PySem.W.Frag} {w : Wd} {v : V} {d : PD} (ex : Ex w.G w.H) (h : ShRd K w v d) : Dd K w.H v d := by
  cases d with
  | list ds => obtain ⟨l, vs, rfl, hs, ha⟩ := h; exact .lst hs (dpa_mono ex _ _ ha)
  | tuple ds => exact dp_mono ex _ _ h
  | none => exact dp_mono ex _ _ h
  | bool b => exact dp_mono ex _ _ h
  | int i => exact dp_mono ex _ _ h
  | str x => exact dp_mono ex _ _ h
  | dict _ => exact dp_mono ex _ _ h
theorem ShRd.tup {K : PySem.W.Frag} {w : Wd} {v : V} {ds : List PD} (ex : Ex w.G w.H) (h : ShRd K w v (.tuple ds)) : ∃ l vs, v = .ref l ∧ w.H l = some (.tup vs) ∧ DdAll K w.G vs ds ∧ Dd K w.G v (.tuple ds) := by
  have h : Dd K w.G v (.tuple ds) := h
  cases h with
  | tup hs ha => exact ⟨_, _, rfl, ex _ _ hs, ha, .tup hs ha⟩
/-- the data that a value shows now -/
def rd (ρ : List Slot) : DV → Option PD
  | .dat d => some d
  | .fr ds => some (.list ds)
  | .slt i => match ρ[i]? with
    | some (.lst ds) => some (.list ds)
    | some (.pub d) => some d
    | _ => none
def withD : Option PD → (PD → Prop) → Prop
  | some d, k => k d
  | none, _ => False
theorem withD.elim {o : Option PD} {k : PD → Prop} (h : withD o k) : ∃ d, o = some d ∧ k d := by
  cases o with
  | none => exact (show False from h).elim
  | some d => exact ⟨d, rfl, h⟩
theorem withD.mono {o : Option PD} {k k' : PD → Prop} (hk : ∀ d, k d → k' d) (h : withD o k) : withD o k' := by
  cases o with
  | none => exact (show False from h).elim
  | some d => exact hk d h
theorem ShRd.of {K : PySem.W.Frag} {ρ : List Slot} {σ : L2.St} {w0 w1 w2 : Wd} {v : V} {dv : DV} {d : PD} (c : Cfg K ρ σ w2) (k : ValOk K σ w0 w1 v dv) (e : Ext w1 w2) (h : rd ρ dv = some d) : ShRd K w2 v d := by
  have k2 := k.mono e
  cases dv with
  | dat d' => cases h; exact ShRd.of_dp c.ex k2
  | fr ds =>
    cases h
    obtain ⟨l, vs, ev, _, h1, _, _, h4⟩ := k2
    exact ⟨l, vs, ev, h1, h4⟩
  | slt i =>
    have hs : σ[i]? = some (some v) := k2
    cases hr : ρ[i]? with
    | none => simp only [rd, hr] at h; cases h
    | some s =>
      simp only [rd, hr] at h
      have q := c.slot i s _ hr hs
      cases s with
      | no => cases h
      | pub d' =>
        cases h
        obtain ⟨v', e', hd⟩ := q
        cases e'
        exact ShRd.of_dp c.ex hd
      | lst ds =>
        cases h
        obtain ⟨l, vs, e', _, hl, hd⟩ := q
        cases e'
        exact ⟨l, vs, rfl, hl, hd⟩
      | own R => cases h
/-- made public -/
def toDat (ρ : List Slot) : DV → (PD → List Slot → Prop) → Prop
  | .dat d, Q => Q d ρ
  | .fr ds, Q => Q (.list ds) ρ
  | .slt i, Q => match ρ[i]? with
    | some (.lst ds) => Q (.list ds) (ρ.set i (.pub (.list ds)))
    | some (.pub d) => Q d ρ
    | _ => False
theorem toDat.mono {ρ : List Slot} {Q Q' : PD → List Slot → Prop} (h : ∀ d ρ', Q d ρ' → Q' d ρ') : ∀ {dv : DV}, toDat ρ dv Q → toDat ρ dv Q'
  | .dat d, q => h _ _ q
  | .fr ds, q => h _ _ q
  | .slt i, q => by
    unfold toDat at q ⊢
    cases hr : ρ[i]? with
    | none => simp only [hr] at q
    | some s =>
      simp only [hr] at q ⊢
      cases s with
      | lst ds => exact h _ _ q
      | pub d => exact h _ _ q
      | no => exact q
      | own R => exact q
/-- a private list is made public -/
theorem Cfg.publish {K : PySem.W.Frag} {ρ : List Slot} {σ : L2.St} {w : Wd} {l : Addr} {vs : List V} (c : Cfg K ρ σ w) (h1 : w.H l = some (.lst vs)) (h2 : w.G l = none) (h3 : ∀ i, l ∉ w.F i) : Cfg K ρ σ ⟨upd w.G l (.lst vs), w.H, w.F⟩ := by
  refine c.step (Ex.new h2) (fun a u h => ?_) fun i a h => ⟨rfl, ?_⟩
  · by_cases e : a = l
    · subst e; rw [upd_same] at h; cases h; exact h1
    · rw [upd_ne e] at h; exact c.ex a u h
  · rw [upd_ne (fun z => h3 i (by rw [← z]; exact h))]
    exact (c.priv i a h).1
theorem toDat.run {K : PySem.W.Frag} {ρ : List Slot} {σ : L2.St} {w w1 : Wd} {v : V} {dv : DV} {Q : PD → List Slot → Prop} (c : Cfg K ρ σ w1) (e : Ext w w1) (k : ValOk K σ w w1 v dv) (h : toDat ρ dv Q) :
    ∃ d ρ' w', Q d ρ' ∧ Cfg K ρ' σ w' ∧ Ext w w' ∧ Dd K w'.G v d ∧ w'.H = w1.H := by
  cases dv with
  | dat d => exact ⟨d, ρ, w1, h, c, e, k, rfl⟩
  | fr ds =>
    obtain ⟨l, vs, ev, h0, h1, h2, h3, h4⟩ := k
    subst ev
    refine ⟨.list ds, ρ, ⟨upd w1.G l (.lst vs), w1.H, w1.F⟩, h, c.publish h1 h2 h3, ⟨e.gg.trans (Ex.new h2), e.keep, fun a ha hg hf => ?_, e.dom, e.fps⟩, .lst upd_same (dpa_mono (Ex.new h2) _ _ h4), rfl⟩
    show upd w1.G l (.lst vs) a = none
    rw [upd_ne (fun z => ha (by rw [z]; exact h0))]
    exact e.out a ha hg hf
  | slt i =>
    have hs : σ[i]? = some (some v) := k
    unfold toDat at h
    cases hr : ρ[i]? with
    | none => simp only [hr] at h
    | some s =>
      simp only [hr] at h
      have q := c.slot i s _ hr hs
      cases s with
      | no => exact h.elim
      | own R => exact h.elim
      | pub d =>
        obtain ⟨v', e', hd⟩ := q
        cases e'
        exact ⟨d, ρ, w1, h, c, e, hd, rfl⟩
      | lst ds =>
        obtain ⟨l, vs, e', ef, hl, hd⟩ := q
        cases e'
        have hG : w1.G l = none := (c.priv i l (by rw [ef]; exact List.mem_singleton.mpr rfl)).1
        have hme : l ∈ w1.F i := by rw [ef]; exact List.mem_singleton.mpr rfl
        have c' : Cfg K (ρ.set i (.pub (.list ds))) σ ⟨upd w1.G l (.lst vs), w1.H, fun j => if j = i then [] else w1.F j⟩ := by
          refine ⟨fun a u h => ?_, fun j a hj => ?_, fun j k a hj hk => ?_, by rw [List.length_set]; exact c.len, fun j s o hj ho => ?_⟩
          · have h : upd w1.G l (.lst vs) a = some u := h
            show w1.H a = some u
            by_cases z : a = l
            · subst z; rw [upd_same] at h; cases h; exact hl
            · rw [upd_ne z] at h; exact c.ex a u h
          · have hj : a ∈ (if j = i then [] else w1.F j) := hj
            by_cases z : j = i
            · rw [if_pos z] at hj; cases hj
            · rw [if_neg z] at hj
              have ne : a ≠ l := fun y => z (c.disj j i l (by rw [← y]; exact hj) hme)
              refine ⟨?_, (c.priv j a hj).2⟩
              show upd w1.G l (.lst vs) a = none
              rw [upd_ne ne]; exact (c.priv j a hj).1
          · have hj : a ∈ (if j = i then [] else w1.F j) := hj
            have hk : a ∈ (if k = i then [] else w1.F k) := hk
            by_cases z : j = i
            · rw [if_pos z] at hj; cases hj
            · by_cases y : k = i
              · rw [if_pos y] at hk; cases hk
              · rw [if_neg z] at hj; rw [if_neg y] at hk
                exact c.disj j k a hj hk
          · by_cases z : j = i
            · subst z
              rw [List.getElem?_set_self (by have := (List.getElem?_eq_some_iff.mp hr).1; exact this)] at hj
              cases hj
              rw [hs] at ho; cases ho
              exact ⟨_, rfl, .lst upd_same (dpa_mono (Ex.new hG) _ _ hd)⟩
            · rw [List.getElem?_set_ne (fun y => z y.symm)] at hj
              have q2 := c.slot j s o hj ho
              cases s with
              | no => trivial
              | pub d => obtain ⟨v2, e2, hd2⟩ := q2; exact ⟨v2, e2, dp_mono (Ex.new hG) _ _ hd2⟩
              | lst ds2 =>
                obtain ⟨l2, vs2, e2, ef2, hl2, hd2⟩ := q2
                exact ⟨l2, vs2, e2, by show (if j = i then [] else w1.F j) = _; rw [if_neg z]; exact ef2, hl2, dpa_mono (Ex.new hG) _ _ hd2⟩
              | own R =>
                obtain ⟨v2, e2, hr2⟩ := q2
                refine ⟨v2, e2, ?_⟩
                show R.rel K v2 (if j = i then [] else w1.F j) _ _
                rw [if_neg z]
                exact R.mono hr2 (Ex.new hG) fun _ _ => rfl
        refine ⟨.list ds, ρ.set i (.pub (.list ds)), _, h, c', ⟨e.gg.trans (Ex.new hG), e.keep, fun a ha hg hf => ?_, e.dom, fun j a hj => ?_⟩, .lst upd_same (dpa_mono (Ex.new hG) _ _ hd), rfl⟩
        · show upd w1.G l (.lst vs) a = none
          by_cases z : a = l
          · subst z
            rcases e.fps i a hme with ⟨j, hj⟩ | hn
            · exact absurd hj (hf j)
            · exact absurd hn ha
          · rw [upd_ne z]; exact e.out a ha hg hf
        · have hj : a ∈ (if j = i then [] else w1.F j) := hj
          by_cases z : j = i
          · rw [if_pos z] at hj; cases hj
          · rw [if_neg z] at hj; exact e.fps j a hj
end Cu

set_option Elab.async false
set_option linter.all false
set_option maxRecDepth 100000
set_option maxHeartbeats 4000000
namespace Cu
open PySem PySem.Spec PyProof.Rows L2

/-- by a test's answer -/
structure cnd (b : Bool) (p q : Prop) : Prop where
  elim ::
  t : b = true → p
  f : b = false → q
theorem cnd.mono {b : Bool} {p q p' q' : Prop} (h1 : p → p') (h2 : q → q') (h : cnd b p q) : cnd b p' q' := ⟨fun z => h1 (h.t z), fun z => h2 (h.f z)⟩
theorem cnd.yes {p q : Prop} (h : p) : cnd true p q := ⟨fun _ => h, fun z => nomatch z⟩
theorem cnd.no {p q : Prop} (h : q) : cnd false p q := ⟨fun z => (nomatch z), fun _ => h⟩
theorem cnd.both {b : Bool} {p : Prop} (h : p) : cnd b p p := ⟨fun _ => h, fun _ => h⟩

/-! ### expressions, by what they do -/
def Wp (X : Cx) (e : Expr) (σ : L2.St) (H : Hp) (Q : VK) : Prop := ∀ (pins : List (Addr × Obj)) (s : Shared), Inv X pins σ H s → wpAny (model X.prog X.w) X.A (eval e X.env) (EP X pins σ Q) X.xe s
def WpT (X : Cx) (e : Expr) (σ : L2.St) (H : Hp) (Q : Bool → Hp → Prop) : Prop := ∀ (pins : List (Addr × Obj)) (s : Shared), Inv X pins σ H s → wpAny (model X.prog X.w) X.A (isTrue e X.env (eval e X.env)) (TP X pins σ Q) X.xe s
def WpW (X : Cx) (e : Expr) (σ : L2.St) (H : Hp) (Q : Bool → Hp → Prop) : Prop := ∀ (whole : Sem Value) (pins : List (Addr × Obj)) (s : Shared), Inv X pins σ H s → wpAny (model X.prog X.w) X.A (isTrue e X.env whole) (TP X pins σ Q) X.xe s
def WpA (X : Cx) (es : List Expr) (σ : L2.St) (H : Hp) (Q : List V → Hp → Prop) : Prop := ∀ (pos : Pos) (pins : List (Addr × Obj)) (s : Shared), Inv X pins σ H s → wpAny (model X.prog X.w) X.A (spliced (backTo pos (starEach es X.env))) (AP X pins σ Q) X.xe s
section
variable {X : Cx} {e : Expr} {es : List Expr} {σ : L2.St} {H : Hp}
theorem pe_star : PE X e (Wp X e) := ⟨fun pins s _ _ _ I h => h pins s I⟩
theorem pt_star : PT X e (WpT X e) := ⟨fun pins s _ _ _ I h => h pins s I⟩
theorem pw_star : PW X e (WpW X e) := ⟨fun wh pins s _ _ _ I h => h wh pins s I⟩
theorem pa_star0 : PA X es (WpA X es) := ⟨fun pos pins s _ _ _ I h => h pos pins s I⟩
theorem wp_of {t : TE} {Q : VK} (h : PE X e t) (q : t σ H Q) : Wp X e σ H Q := fun pins s I => h.run pins s σ H Q I q
theorem wpt_of {t : TT} {Q : Bool → Hp → Prop} (h : PT X e t) (q : t σ H Q) : WpT X e σ H Q := fun pins s I => h.run pins s σ H Q I q
theorem wpw_of {t : TT} {Q : Bool → Hp → Prop} (h : PW X e t) (q : t σ H Q) : WpW X e σ H Q := fun wh pins s I => h.run wh pins s σ H Q I q
theorem wpa_of {t : TA} {Q : List V → Hp → Prop} (h : PA X es t) (q : t σ H Q) : WpA X es σ H Q := fun pos pins s I => h.run pos pins s σ H Q I q
end

abbrev DT := List Slot → (DV → List Slot → Prop) → Prop
abbrev DTt := List Slot → (Bool → List Slot → Prop) → Prop
abbrev DTa := List Slot → (List PD → List Slot → Prop) → Prop
structure DE (X : Cx) (e : Expr) (t : DT) : Prop where
  run : ∀ (ρ : List Slot) (σ : L2.St) (w : Wd) (Q : DV → List Slot → Prop) (QQ : VK), Cfg X.K ρ σ w → t ρ Q →
    (∀ v dv ρ' w', Q dv ρ' → Cfg X.K ρ' σ w' → Ext w w' → ValOk X.K σ w w' v dv → QQ v w'.H) → Wp X e σ w.H QQ
  mono : ∀ (ρ : List Slot) (Q Q' : DV → List Slot → Prop), (∀ dv ρ', Q dv ρ' → Q' dv ρ') → t ρ Q → t ρ Q'
structure DTs (X : Cx) (e : Expr) (t : DTt) : Prop where
  run : ∀ (ρ : List Slot) (σ : L2.St) (w : Wd) (Q : Bool → List Slot → Prop) (QQ : Bool → Hp → Prop), Cfg X.K ρ σ w → t ρ Q →
    (∀ b ρ' w', Q b ρ' → Cfg X.K ρ' σ w' → Ext w w' → QQ b w'.H) → WpT X e σ w.H QQ
  mono : ∀ (ρ : List Slot) (Q Q' : Bool → List Slot → Prop), (∀ b ρ', Q b ρ' → Q' b ρ') → t ρ Q → t ρ Q'
structure DTw (X : Cx) (e : Expr) (t : DTt) : Prop where
  run : ∀ (ρ : List Slot) (σ : L2.St) (w : Wd) (Q : Bool → List Slot → Prop) (QQ : Bool → Hp → Prop), Cfg X.K ρ σ w → t ρ Q →
    (∀ b ρ' w', Q b ρ' → Cfg X.K ρ' σ w' → Ext w w' → QQ b w'.H) → WpW X e σ w.H QQ
  mono : ∀ (ρ : List Slot) (Q Q' : Bool → List Slot → Prop), (∀ b ρ', Q b ρ' → Q' b ρ') → t ρ Q → t ρ Q'
structure DA (X : Cx) (es : List Expr) (t : DTa) : Prop where
  run : ∀ (ρ : List Slot) (σ : L2.St) (w : Wd) (Q : List PD → List Slot → Prop) (QQ : List V → Hp → Prop), Cfg X.K ρ σ w → t ρ Q →
    (∀ vs ds ρ' w', Q ds ρ' → Cfg X.K ρ' σ w' → Ext w w' → DdAll X.K w'.G vs ds → QQ vs w'.H) → WpA X es σ w.H QQ
  mono : ∀ (ρ : List Slot) (Q Q' : List PD → List Slot → Prop), (∀ ds ρ', Q ds ρ' → Q' ds ρ') → t ρ Q → t ρ Q'

/-! ### operations on values -/
def OpSt (X : Cx) (f : Value → Value → Sem Value) (x y : V) (H : Hp) (Q : VK) : Prop := ∃ r, OpR X f r ∧ r x y H Q
theorem opst_ok (X : Cx) (f : Value → Value → Sem Value) : OpR X f (OpSt X f) := fun pins s σ H x y v u Q I rx ry h => by
  obtain ⟨r, hr, q⟩ := h
  exact hr pins s σ H x y v u Q I rx ry q
def UnSt (X : Cx) (f : Value → Sem Value) (x : V) (H : Hp) (Q : VK) : Prop := ∃ r, UnR X f r ∧ r x H Q
theorem unst_ok (X : Cx) (f : Value → Sem Value) : UnR X f (UnSt X f) := fun pins s σ H x v Q I rx h => by
  obtain ⟨r, hr, q⟩ := h
  exact hr pins s σ H x v Q I rx q
def CaSt (X : Cx) (f : Value) (xs : List V) (H : Hp) (Q : VK) : Prop := ∃ r, CallR X f r ∧ r xs H Q
theorem cast_ok (X : Cx) (f : Value) : CallR X f (CaSt X f) := fun pins s σ H xs us Q I rx h => by
  obtain ⟨r, hr, q⟩ := h
  exact hr pins s σ H xs us Q I rx q
def IxSt (X : Cx) (x y : V) (H : Hp) (Q : VK) : Prop := ∃ r, IxR X r ∧ r x y H Q
def SlSt (X : Cx) (x : V) (lo hi : Option Int) (H : Hp) (Q : VK) : Prop := ∃ r, SlR X r ∧ r x lo hi H Q
theorem slst_ok (X : Cx) : SlR X (SlSt X) := fun pins s σ H x v vl vu lo hi sl Q I rx h1 h2 h3 h => by
  obtain ⟨r, hr, q⟩ := h
  exact hr pins s σ H x v vl vu lo hi sl Q I rx h1 h2 h3 q
/-- what is wanted behind an operation: of a value and the world then -/
abbrev After (K : PySem.W.Frag) (ρ : List Slot) (σ : L2.St) (w : Wd) (Q : DV → Prop) (QQ : VK) : Prop := ∀ v dv w', Q dv → Cfg K ρ σ w' → Ext w w' → ValOk K σ w w' v dv → QQ v w'.H
def Op2 (X : Cx) (f : Value → Value → Sem Value) (W : PD → PD → (DV → Prop) → Prop) : Prop := ∀ {ρ : List Slot} {σ : L2.St} {w : Wd} {x y : V} {d1 d2 : PD} {Q : DV → Prop} {QQ : VK},
  Cfg X.K ρ σ w → ShRd X.K w x d1 → ShRd X.K w y d2 → W d1 d2 Q → After X.K ρ σ w Q QQ → OpSt X f x y w.H QQ
def Ca1 (X : Cx) (f : Value) (W : PD → (DV → Prop) → Prop) : Prop := ∀ {ρ : List Slot} {σ : L2.St} {w : Wd} {x : V} {d : PD} {Q : DV → Prop} {QQ : VK},
  Cfg X.K ρ σ w → ShRd X.K w x d → W d Q → After X.K ρ σ w Q QQ → CaSt X f [x] w.H QQ
def CaN (X : Cx) (f : Value) (W : List PD → (DV → Prop) → Prop) : Prop := ∀ {ρ : List Slot} {σ : L2.St} {w : Wd} {xs : List V} {ds : List PD} {Q : DV → Prop} {QQ : VK},
  Cfg X.K ρ σ w → DdAll X.K w.G xs ds → W ds Q → After X.K ρ σ w Q QQ → CaSt X f xs w.H QQ
section
variable {K : PySem.W.Frag} {ρ : List Slot} {σ : L2.St} {w : Wd} {Q : DV → Prop} {QQ : VK}
/-- plain answers: nothing is made -/
theorem After.dat {v : V} {d : PD} (a : After K ρ σ w Q QQ) (c : Cfg K ρ σ w) (h : Dd K w.G v d) (q : Q (.dat d)) : QQ v w.H := a v (.dat d) w q c (Ext.refl w) h
theorem After.int {i : Int} (a : After K ρ σ w Q QQ) (c : Cfg K ρ σ w) (q : Q (.dat (.int i))) : QQ (.int i) w.H := a.dat c (.int i) q
theorem After.bl {b : Bool} (a : After K ρ σ w Q QQ) (c : Cfg K ρ σ w) (q : Q (.dat (.bool b))) : QQ (.bl b) w.H := a.dat c (.bl b) q
theorem After.str {z : Str} (a : After K ρ σ w Q QQ) (c : Cfg K ρ σ w) (q : Q (.dat (.str z))) : QQ (.str z) w.H := a.dat c (.str z) q
/-- a new list -/
theorem After.fr {p : Addr} {vs : List V} {ds : List PD} (a : After K ρ σ w Q QQ) (c : Cfg K ρ σ w) (hp : w.H p = none) (h : DdAll K w.G vs ds) (q : Q (.fr ds)) : QQ (.ref p) (upd w.H p (.lst vs)) :=
  a (.ref p) (.fr ds) ⟨w.G, upd w.H p (.lst vs), w.F⟩ q (c.new hp) (Ext.new hp) ⟨p, vs, rfl, hp, upd_same, c.ex.back hp, fun i z => (c.priv i p z).2 hp, h⟩
/-- a new tuple -/
theorem After.tup {p : Addr} {vs : List V} {ds : List PD} (a : After K ρ σ w Q QQ) (c : Cfg K ρ σ w) (hp : w.H p = none) (h : DdAll K w.G vs ds) (q : Q (.dat (.tuple ds))) : QQ (.ref p) (upd w.H p (.tup vs)) :=
  a (.ref p) (.dat (.tuple ds)) ⟨upd w.G p (.tup vs), upd w.H p (.tup vs), w.F⟩ q (c.newP hp) (Ext.newP c.ex hp) (.tup upd_same (dpa_mono (Ex.new (c.ex.back hp)) _ _ h))
theorem ShRd.int {x : V} {i : Int} (h : ShRd K w x (.int i)) : x = .int i := by cases h; rfl
theorem ShRd.bl {x : V} {b : Bool} (h : ShRd K w x (.bool b)) : x = .bl b := by cases h; rfl
theorem ShRd.str {x : V} {z : Str} (h : ShRd K w x (.str z)) : x = .str z := by cases h; rfl
theorem ShRd.non {x : V} (h : ShRd K w x .none) : x = .non := by cases h; rfl
end

theorem cat_line {n : Nat} (h : n ≤ 16000000) : n ≤ sizeLine := Nat.le_trans h (by decide)

section
variable {X : Cx}
/-! ### binary operators -/
def addW : PD → PD → (DV → Prop) → Prop
  | .int i, .int j, Q => Q (.dat (.int (i + j)))
  | .str a, .str b, Q => a.length + b.length ≤ 16000000 ∧ Q (.dat (.str (a ++ b)))
  | .list a, .list b, Q => a.length + b.length ≤ 16000000 ∧ Q (.fr (a ++ b))
  | .tuple a, .tuple b, Q => a.length + b.length ≤ 16000000 ∧ Q (.dat (.tuple (a ++ b)))
  | _, _, _ => False
def subW : PD → PD → (DV → Prop) → Prop
  | .int i, .int j, Q => Q (.dat (.int (i - j)))
  | _, _, _ => False
def mulW : PD → PD → (DV → Prop) → Prop
  | .int i, .int j, Q => (CMul i j ∨ CMulW i j) ∧ Q (.dat (.int (i * j)))
  | .list a, .int k, Q => (-(2 ^ 63) ≤ k ∧ k < 2 ^ 63 ∧ a.length * k.toNat ≤ 16000000) ∧ Q (.fr (List.replicate k.toNat a).flatten)
  | _, _, _ => False
def fdivW : PD → PD → (DV → Prop) → Prop
  | .int i, .int j, Q => CDivW i j ∧ Q (.dat (.int (i / j)))
  | _, _, _ => False
def modW : PD → PD → (DV → Prop) → Prop
  | .int i, .int j, Q => 0 < j ∧ Q (.dat (.int (i % j)))
  | _, _, _ => False
def powW : PD → PD → (DV → Prop) → Prop
  | .int i, .int j, Q => CPow i j ∧ Q (.dat (.int (i ^ j.toNat)))
  | _, _, _ => False
def opW : Operator → PD → PD → (DV → Prop) → Prop
  | .Add => addW
  | .Sub => subW
  | .Mult => mulW
  | .FloorDiv => fdivW
  | .Mod => modW
  | .Pow => powW
  | _ => fun _ _ _ => False
theorem cdivW_small {i j : Int} (h : 0 < j) (h2 : j < 2 ^ 64) : CDivW i j := wide_div (b := 65) h (by omega) (by decide) (by decide)
theorem add_ok : Op2 X (binaryOp .Add) addW := by
  intro ρ σ w x y d1 d2 Q QQ c h1 h2 hW a
  cases d1 with
  | int i =>
    cases d2 with
    | int j => rw [h1.int, h2.int]; exact ⟨_, op_add, i, j, rfl, rfl, a.int c hW⟩
    | _ => exact (show False from hW).elim
  | str i =>
    cases d2 with
    | str j => rw [h1.str, h2.str]; exact ⟨_, op_add_str, i, j, rfl, rfl, cat_line hW.1, a.str c hW.2⟩
    | _ => exact (show False from hW).elim
  | list us =>
    cases d2 with
    | list ws =>
      obtain ⟨l, xs, rfl, hl, hx⟩ := h1
      obtain ⟨b, ys, rfl, hb, hy⟩ := h2
      exact ⟨_, op_cat, l, b, xs, ys, rfl, rfl, hl, hb, by rw [dpa_len hx, dpa_len hy]; exact cat_line hW.1, fun p hp => a.fr c hp (dpa_app hx hy) hW.2⟩
    | _ => exact (show False from hW).elim
  | tuple us =>
    cases d2 with
    | tuple ws =>
      obtain ⟨l, xs, rfl, hl, hx, k1⟩ := h1.tup c.ex
      obtain ⟨b, ys, rfl, hb, hy, k2⟩ := h2.tup c.ex
      refine ⟨_, op_catA, l, b, xs, ys, rfl, rfl, SqT.of hl, SqT.of hb, by rw [dpa_len hx, dpa_len hy]; exact cat_line hW.1, fun e => ?_, fun _ e => ?_, fun _ _ p hp => a.tup c hp (dpa_app hx hy) hW.2⟩
      · subst e
        cases hx
        exact a.dat c k2 hW.2
      · subst e
        cases hy
        have q := hW.2
        rw [List.append_nil] at q
        exact a.dat c k1 q
    | _ => exact (show False from hW).elim
  | _ => exact (show False from hW).elim
theorem sub_ok : Op2 X (binaryOp .Sub) subW := by
  intro ρ σ w x y d1 d2 Q QQ c h1 h2 hW a
  cases d1 with
  | int i =>
    cases d2 with
    | int j => rw [h1.int, h2.int]; exact ⟨_, op_sub, i, j, rfl, rfl, a.int c hW⟩
    | _ => exact (show False from hW).elim
  | _ => exact (show False from hW).elim
theorem mul_ok : Op2 X (binaryOp .Mult) mulW := by
  intro ρ σ w x y d1 d2 Q QQ c h1 h2 hW a
  cases d1 with
  | int i =>
    cases d2 with
    | int j =>
      rw [h1.int, h2.int]
      rcases hW.1 with m | m
      · exact ⟨_, op_mul, i, j, rfl, rfl, m, a.int c hW.2⟩
      · exact ⟨_, op_mulW, i, j, rfl, rfl, m, a.int c hW.2⟩
    | _ => exact (show False from hW).elim
  | list us =>
    cases d2 with
    | int k =>
      obtain ⟨l, xs, rfl, hl, hx⟩ := h1
      rw [h2.int]
      obtain ⟨⟨b1, b2, b3⟩, q⟩ := hW
      refine ⟨_, op_rep, l, k, xs, rfl, rfl, hl, b1, b2, by rw [dpa_len hx]; exact cat_line b3, fun p hp => a.fr c hp ?_ q⟩
      generalize k.toNat = n
      clear q b1 b2 b3
      induction n with
      | zero => exact .nil
      | succ n ih =>
        rw [List.replicate_succ, List.replicate_succ, List.flatten_cons, List.flatten_cons]
        exact dpa_app hx ih
    | _ => exact (show False from hW).elim
  | _ => exact (show False from hW).elim
theorem fdiv_ok : Op2 X (binaryOp .FloorDiv) fdivW := by
  intro ρ σ w x y d1 d2 Q QQ c h1 h2 hW a
  cases d1 with
  | int i =>
    cases d2 with
    | int j => rw [h1.int, h2.int]; exact ⟨_, op_fdivW, i, j, rfl, rfl, hW.1, a.int c hW.2⟩
    | _ => exact (show False from hW).elim
  | _ => exact (show False from hW).elim
theorem mod_ok : Op2 X (binaryOp .Mod) modW := by
  intro ρ σ w x y d1 d2 Q QQ c h1 h2 hW a
  cases d1 with
  | int i =>
    cases d2 with
    | int j => rw [h1.int, h2.int]; exact ⟨_, op_mod, i, j, rfl, rfl, hW.1, a.int c hW.2⟩
    | _ => exact (show False from hW).elim
  | _ => exact (show False from hW).elim
theorem pow_ok : Op2 X (binaryOp .Pow) powW := by
  intro ρ σ w x y d1 d2 Q QQ c h1 h2 hW a
  cases d1 with
  | int i =>
    cases d2 with
    | int j => rw [h1.int, h2.int]; exact ⟨_, op_pow, i, j, rfl, rfl, hW.1, a.int c hW.2⟩
    | _ => exact (show False from hW).elim
  | _ => exact (show False from hW).elim
theorem op_ok (op : Operator) : Op2 X (binaryOp op) (opW op) := by
  cases op
  case Add => exact add_ok
  case Sub => exact sub_ok
  case Mult => exact mul_ok
  case FloorDiv => exact fdiv_ok
  case Mod => exact mod_ok
  case Pow => exact pow_ok
  all_goals exact fun _ _ _ hW _ => (show False from hW).elim

/-! ### comparisons -/
def isN : PD → Bool
  | .none => true
  | _ => false
def ltW : PD → PD → (DV → Prop) → Prop
  | .int i, .int j, Q => Q (.dat (.bool (decide (i < j))))
  | _, _, _ => False
def leW : PD → PD → (DV → Prop) → Prop
  | .int i, .int j, Q => Q (.dat (.bool (decide (i ≤ j))))
  | _, _, _ => False
def gtW : PD → PD → (DV → Prop) → Prop
  | .int i, .int j, Q => Q (.dat (.bool (decide (j < i))))
  | _, _, _ => False
def geW : PD → PD → (DV → Prop) → Prop
  | .int i, .int j, Q => Q (.dat (.bool (decide (j ≤ i))))
  | _, _, _ => False
def eqW : PD → PD → (DV → Prop) → Prop
  | .int i, .int j, Q => Q (.dat (.bool (decide (i = j))))
  | .bool i, .bool j, Q => Q (.dat (.bool (i == j)))
  | .none, .none, Q => Q (.dat (.bool true))
  | .str i, .str j, Q => Q (.dat (.bool (decide (i = j))))
  | d, e, Q => (SeqAt.shaped d = true ∧ SeqAt.shaped e = true) ∧ Q (.dat (.bool (PyData.eqv d e)))
def neW : PD → PD → (DV → Prop) → Prop
  | .int i, .int j, Q => Q (.dat (.bool (!decide (i = j))))
  | .bool i, .bool j, Q => Q (.dat (.bool (!(i == j))))
  | .none, .none, Q => Q (.dat (.bool false))
  | .str i, .str j, Q => Q (.dat (.bool (!decide (i = j))))
  | d, e, Q => (SeqAt.shaped d = true ∧ SeqAt.shaped e = true) ∧ Q (.dat (.bool (!PyData.eqv d e)))
def inW : PD → PD → (DV → Prop) → Prop
  | d, .list ds, Q => (SeqAt.shaped d = true ∧ SeqAt.shaped (.list ds) = true) ∧ Q (.dat (.bool (ds.any fun z => PyData.eqv z d)))
  | _, _, _ => False
def ninW : PD → PD → (DV → Prop) → Prop
  | d, .list ds, Q => (SeqAt.shaped d = true ∧ SeqAt.shaped (.list ds) = true) ∧ Q (.dat (.bool (!ds.any fun z => PyData.eqv z d)))
  | _, _, _ => False
def isW : PD → PD → (DV → Prop) → Prop
  | d, .none, Q => Q (.dat (.bool (isN d)))
  | _, _, _ => False
def isnW : PD → PD → (DV → Prop) → Prop
  | d, .none, Q => Q (.dat (.bool (!isN d)))
  | _, _, _ => False
def cmpW : CmpOp → PD → PD → (DV → Prop) → Prop
  | .Lt => ltW
  | .LtE => leW
  | .Gt => gtW
  | .GtE => geW
  | .Eq => eqW
  | .NotEq => neW
  | .In => inW
  | .NotIn => ninW
  | .Is => isW
  | .IsNot => isnW
theorem cmpI {op : CmpOp} {f : Int → Int → Bool} {W : PD → PD → (DV → Prop) → Prop} (hr : OpR X (compareOp op) (rI0 fun i j => .bl (f i j))) (hW : ∀ {d1 d2 : PD} {Q : DV → Prop}, W d1 d2 Q → ∃ i j, d1 = .int i ∧ d2 = .int j ∧ Q (.dat (.bool (f i j)))) : Op2 X (compareOp op) W := by
  intro ρ σ w x y d1 d2 Q QQ c h1 h2 h a
  obtain ⟨i, j, rfl, rfl, q⟩ := hW h
  rw [h1.int, h2.int]
  exact ⟨_, hr, i, j, rfl, rfl, a.bl c q⟩
theorem intP {C : Int → Int → (DV → Prop) → Prop} {W : PD → PD → (DV → Prop) → Prop} (h0 : ∀ d1 d2 Q, (∀ i j, d1 = .int i → d2 ≠ .int j) → ¬ W d1 d2 Q) (h1 : ∀ i j Q, W (.int i) (.int j) Q → C i j Q) {d1 d2 : PD} {Q : DV → Prop} (h : W d1 d2 Q) : ∃ i j, d1 = .int i ∧ d2 = .int j ∧ C i j Q := by
  by_cases z : ∃ i j, d1 = .int i ∧ d2 = .int j
  · obtain ⟨i, j, rfl, rfl⟩ := z
    exact ⟨i, j, rfl, rfl, h1 i j Q h⟩
  · exact absurd h (h0 d1 d2 Q fun i j e1 e2 => z ⟨i, j, e1, e2⟩)
theorem ltW_i {d1 d2 : PD} {Q : DV → Prop} (h : ltW d1 d2 Q) : ∃ i j, d1 = .int i ∧ d2 = .int j ∧ Q (.dat (.bool (decide (i < j)))) := by
  cases d1 <;> first | exact (show False from h).elim | (cases d2 <;> first | exact (show False from h).elim | exact ⟨_, _, rfl, rfl, h⟩)
theorem leW_i {d1 d2 : PD} {Q : DV → Prop} (h : leW d1 d2 Q) : ∃ i j, d1 = .int i ∧ d2 = .int j ∧ Q (.dat (.bool (decide (i ≤ j)))) := by
  cases d1 <;> first | exact (show False from h).elim | (cases d2 <;> first | exact (show False from h).elim | exact ⟨_, _, rfl, rfl, h⟩)
theorem gtW_i {d1 d2 : PD} {Q : DV → Prop} (h : gtW d1 d2 Q) : ∃ i j, d1 = .int i ∧ d2 = .int j ∧ Q (.dat (.bool (decide (j < i)))) := by
  cases d1 <;> first | exact (show False from h).elim | (cases d2 <;> first | exact (show False from h).elim | exact ⟨_, _, rfl, rfl, h⟩)
theorem geW_i {d1 d2 : PD} {Q : DV → Prop} (h : geW d1 d2 Q) : ∃ i j, d1 = .int i ∧ d2 = .int j ∧ Q (.dat (.bool (decide (j ≤ i)))) := by
  cases d1 <;> first | exact (show False from h).elim | (cases d2 <;> first | exact (show False from h).elim | exact ⟨_, _, rfl, rfl, h⟩)
theorem shaped_int (i : Int) : SeqAt.shaped (.int i) = true := by simp [SeqAt.shaped, PyData.canLay0, PyData.depth]
theorem eqv_int (i j : Int) : PyData.eqv (.int i) (.int j) = decide (i = j) := by
  rw [PyData.eqv]; rfl
theorem shaped_bool (i : Bool) : SeqAt.shaped (.bool i) = true := by simp [SeqAt.shaped, PyData.canLay0, PyData.depth]
theorem shaped_none : SeqAt.shaped .none = true := by simp [SeqAt.shaped, PyData.canLay0, PyData.depth]
theorem eqv_bool (i j : Bool) : PyData.eqv (.bool i) (.bool j) = (i == j) := by rw [PyData.eqv]
theorem eqv_none : PyData.eqv .none .none = true := by rw [PyData.eqv]
theorem eqW_i {d1 d2 : PD} {Q : DV → Prop} (h : eqW d1 d2 Q) : (∃ i j, d1 = .str i ∧ d2 = .str j ∧ Q (.dat (.bool (decide (i = j))))) ∨ (SeqAt.shaped d1 = true ∧ SeqAt.shaped d2 = true) ∧ Q (.dat (.bool (PyData.eqv d1 d2))) := by
  cases d1 <;> cases d2 <;> first | exact .inr h | exact .inr ⟨⟨shaped_int _, shaped_int _⟩, by rw [eqv_int]; exact h⟩ | exact .inr ⟨⟨shaped_bool _, shaped_bool _⟩, by rw [eqv_bool]; exact h⟩ | exact .inr ⟨⟨shaped_none, shaped_none⟩, by rw [eqv_none]; exact h⟩ | exact .inl ⟨_, _, rfl, rfl, h⟩
theorem neW_i {d1 d2 : PD} {Q : DV → Prop} (h : neW d1 d2 Q) : (∃ i j, d1 = .str i ∧ d2 = .str j ∧ Q (.dat (.bool (!decide (i = j))))) ∨ (SeqAt.shaped d1 = true ∧ SeqAt.shaped d2 = true) ∧ Q (.dat (.bool (!PyData.eqv d1 d2))) := by
  cases d1 <;> cases d2 <;> first | exact .inr h | exact .inr ⟨⟨shaped_int _, shaped_int _⟩, by rw [eqv_int]; exact h⟩ | exact .inr ⟨⟨shaped_bool _, shaped_bool _⟩, by rw [eqv_bool]; exact h⟩ | exact .inr ⟨⟨shaped_none, shaped_none⟩, by rw [eqv_none]; exact h⟩ | exact .inl ⟨_, _, rfl, rfl, h⟩
theorem dec_str (i j : Str) : decide (V.str i = V.str j) = decide (i = j) := by
  by_cases h : i = j
  · subst h; rw [decide_eq_true rfl, decide_eq_true rfl]
  · rw [decide_eq_false h, decide_eq_false fun z => h (by injection z)]
theorem cmp_ok (hu : X.A.units + 65 < cLine) (op : CmpOp) : Op2 X (compareOp op) (cmpW op) := by
  cases op
  case Lt => exact cmpI op_lt ltW_i
  case LtE => exact cmpI op_le leW_i
  case Gt => exact cmpI op_gt gtW_i
  case GtE => exact cmpI op_ge geW_i
  case Eq =>
    intro ρ σ w x y d1 d2 Q QQ c h1 h2 h a
    rcases eqW_i h with ⟨i, j, rfl, rfl, q⟩ | ⟨⟨s1, s2⟩, q⟩
    · rw [h1.str, h2.str]
      exact ⟨_, op_eq, rfl, by rw [dec_str]; exact a.bl c q⟩
    exact ⟨_, op_eqD (by omega), d1, d2, dd_dp _ _ (h1.dpH c.ex), dd_dp _ _ (h2.dpH c.ex), s1, s2, a.bl c q⟩
  case NotEq =>
    intro ρ σ w x y d1 d2 Q QQ c h1 h2 h a
    rcases neW_i h with ⟨i, j, rfl, rfl, q⟩ | ⟨⟨s1, s2⟩, q⟩
    · rw [h1.str, h2.str]
      exact ⟨_, op_ne, rfl, by rw [dec_str]; exact a.bl c q⟩
    exact ⟨_, op_neD (by omega), d1, d2, dd_dp _ _ (h1.dpH c.ex), dd_dp _ _ (h2.dpH c.ex), s1, s2, a.bl c q⟩
  case In =>
    intro ρ σ w x y d1 d2 Q QQ c h1 h2 h a
    cases d2 with
    | list ds => exact ⟨_, op_inD hu, d1, ds, dd_dp _ _ (h1.dpH c.ex), dd_dp _ _ (h2.dpH c.ex), h.1.1, h.1.2, a.bl c h.2⟩
    | _ => exact (show False from by cases d1 <;> exact h).elim
  case NotIn =>
    intro ρ σ w x y d1 d2 Q QQ c h1 h2 h a
    cases d2 with
    | list ds => exact ⟨_, op_notInD hu, d1, ds, dd_dp _ _ (h1.dpH c.ex), dd_dp _ _ (h2.dpH c.ex), h.1.1, h.1.2, a.bl c h.2⟩
    | _ => exact (show False from by cases d1 <;> exact h).elim
  case Is =>
    intro ρ σ w x y d1 d2 Q QQ c h1 h2 h a
    cases d2 with
    | none =>
      have e : decide (x = .non) = isN d1 := by
        cases h1.dpH c.ex <;> rfl
      exact ⟨_, op_isN, h2.non, by rw [e]; exact a.bl c h⟩
    | _ => exact (show False from by cases d1 <;> exact h).elim
  case IsNot =>
    intro ρ σ w x y d1 d2 Q QQ c h1 h2 h a
    cases d2 with
    | none =>
      have e : decide (x = .non) = isN d1 := by
        cases h1.dpH c.ex <;> rfl
      exact ⟨_, op_notN, h2.non, by rw [e]; exact a.bl c h⟩
    | _ => exact (show False from by cases d1 <;> exact h).elim
end
end Cu

set_option Elab.async false
set_option linter.all false
set_option maxRecDepth 100000
set_option maxHeartbeats 4000000
namespace Cu
open PySem PySem.Spec PyProof.Rows L2

section
variable {X : Cx} {a b c e f : Expr} {ta tb tc te : DT} {tt : DTt} {pos : Pos}
/-! ### names, constants -/
def varW (i : Nat) : Option Slot → (DV → Prop) → Prop
  | some (.pub d), Q => Q (.dat d)
  | some (.lst _), Q => Q (.slt i)
  | some (.own _), Q => Q (.slt i)
  | _, _ => False
theorem varW.mono {i : Nat} {o : Option Slot} {Q Q' : DV → Prop} (h : ∀ d, Q d → Q' d) (q : varW i o Q) : varW i o Q' := by
  cases o with
  | none => exact q
  | some s => cases s with
    | no => exact q
    | pub d => exact h _ q
    | lst ds => exact h _ q
    | own R => exact h _ q
def dVar (i : Nat) : DT := fun ρ Q => varW i ρ[i]? fun v => Q v ρ
theorem de_var (i : Nat) {x : Str} (hN : X.N[i]? = some x := by rfl) (hv : Vis X.env.scope x := by first | exact Or.inl rfl | exact Or.inr (Or.inl rfl) | exact Or.inr (Or.inr rfl)) (hd : (x == ("__debug__" : Str)) = false := by decide)
    (hcd : (x == ("__classdict__" : Str)) = false := by decide) : DE X (.Name x pos) (dVar i) where
  run := fun ρ σ w Q QQ cf h k => wp_of (pe_var hN hv hd hcd) (by
    have h : varW i ρ[i]? (fun v => Q v ρ) := h
    cases hr : ρ[i]? with
    | none => rw [hr] at h; exact (show False from h).elim
    | some s =>
      rw [hr] at h
      have hi : i < σ.length := by rw [← cf.len]; exact (List.getElem?_eq_some_iff.mp hr).1
      have hs : σ[i]? = some σ[i] := List.getElem?_eq_getElem hi
      have q := cf.slot i s _ hr hs
      cases s with
      | no => exact (show False from h).elim
      | pub d =>
        obtain ⟨v, e, hd⟩ := q
        exact ⟨v, by rw [hs, e], k v (.dat d) ρ w h cf (Ext.refl w) hd⟩
      | lst ds =>
        obtain ⟨l, vs, e, _⟩ := q
        exact ⟨.ref l, by rw [hs, e], k (.ref l) (.slt i) ρ w h cf (Ext.refl w) (by show σ[i]? = _; rw [hs, e])⟩
      | own R =>
        obtain ⟨v, e, _⟩ := q
        exact ⟨v, by rw [hs, e], k v (.slt i) ρ w h cf (Ext.refl w) (by show σ[i]? = _; rw [hs, e])⟩)
  mono := fun ρ Q Q' h q => varW.mono (fun d => h d ρ) q
def dC (d : PD) : DT := fun ρ Q => Q (.dat d) ρ
theorem de_c {v : V} {d : PD} (h : PE X e (tC v)) (hd : ∀ K G, Dd K G v d) : DE X e (dC d) where
  run := fun ρ σ w Q QQ cf q k => wp_of h (k v (.dat d) ρ w q cf (Ext.refl w) (hd _ _))
  mono := fun ρ Q Q' h q => h _ _ q
theorem de_int {i : Int} {j} : DE X (.Constant (.int i) j pos) (dC (.int i)) := de_c pe_int fun _ _ => .int i
theorem de_bl {i : Bool} {j} : DE X (.Constant (.bool i) j pos) (dC (.bool i)) := de_c pe_bl fun _ _ => .bl i
theorem de_non {j} : DE X (.Constant .none j pos) (dC .none) := de_c pe_non fun _ _ => .non
theorem de_str {x : Str} {j} : DE X (.Constant (.str x) j pos) (dC (.str x)) := de_c pe_str fun _ _ => .str x
/-- a global name that holds a plain constant -/
theorem de_gint {x : Str} {i : Int} {t : Tok} (hm : X.mg x = some (.int i t)) (hg : Gl X x := by rfl) (hd : (x == ("__debug__" : Str)) = false := by decide) : DE X (.Name x pos) (dC (.int i)) := de_c (pe_glob (v := .int i) hg hm ⟨t, rfl⟩ hd) fun _ _ => .int i
theorem de_gstr {x : Str} {i : Str} {t : Tok} (hm : X.mg x = some (.str i t)) (hg : Gl X x := by rfl) (hd : (x == ("__debug__" : Str)) = false := by decide) : DE X (.Name x pos) (dC (.str i)) := de_c (pe_glob (v := .str i) hg hm ⟨t, rfl⟩ hd) fun _ _ => .str i

/-! ### operators -/
def d2 (W : PD → PD → (DV → Prop) → Prop) (ta tb : DT) : DT := fun ρ Q => ta ρ fun x ρ1 => tb ρ1 fun y ρ2 => withD (rd ρ2 x) fun d => withD (rd ρ2 y) fun d' => W d d' fun r => Q r ρ2
def d1 (W : PD → (DV → Prop) → Prop) (ta : DT) : DT := fun ρ Q => ta ρ fun x ρ1 => withD (rd ρ1 x) fun d => W d fun r => Q r ρ1
abbrev M2 (W : PD → PD → (DV → Prop) → Prop) : Prop := ∀ {d d' : PD} {Q Q' : DV → Prop}, (∀ v, Q v → Q' v) → W d d' Q → W d d' Q'
abbrev M1 (W : PD → (DV → Prop) → Prop) : Prop := ∀ {d : PD} {Q Q' : DV → Prop}, (∀ v, Q v → Q' v) → W d Q → W d Q'
theorem d2_mono {W : PD → PD → (DV → Prop) → Prop} (m : M2 W) (ma : ∀ ρ Q Q', (∀ dv ρ', Q dv ρ' → Q' dv ρ') → ta ρ Q → ta ρ Q') (mb : ∀ ρ Q Q', (∀ dv ρ', Q dv ρ' → Q' dv ρ') → tb ρ Q → tb ρ Q') :
    ∀ ρ Q Q', (∀ dv ρ', Q dv ρ' → Q' dv ρ') → d2 W ta tb ρ Q → d2 W ta tb ρ Q' := fun ρ Q Q' h q =>
  ma ρ _ _ (fun x ρ1 q1 => mb ρ1 _ _ (fun y ρ2 q2 => withD.mono (fun d q3 => withD.mono (fun d' q4 => m (fun v => h v ρ2) q4) q3) q2) q1) q
/-- two places, then an operation -/
theorem run2 (ha : DE X a ta) (hb : DE X b tb) {W : PD → PD → (DV → Prop) → Prop} {fv : V → V → Hp → VK → Prop} {ρ : List Slot} {σ : L2.St} {w : Wd} {Q : DV → List Slot → Prop} {QQ : VK}
    (hop : ∀ {ρ : List Slot} {w : Wd} {x y : V} {d d' : PD} {Q : DV → Prop} {QQ : VK}, Cfg X.K ρ σ w → ShRd X.K w x d → ShRd X.K w y d' → W d d' Q → After X.K ρ σ w Q QQ → fv x y w.H QQ)
    (cf : Cfg X.K ρ σ w) (h : d2 W ta tb ρ Q) (k : ∀ v dv ρ' w', Q dv ρ' → Cfg X.K ρ' σ w' → Ext w w' → ValOk X.K σ w w' v dv → QQ v w'.H) :
    Wp X a σ w.H fun x H1 => Wp X b σ H1 fun y H2 => fv x y H2 QQ :=
  ha.run ρ σ w _ _ cf h fun x dx ρ1 w1 q1 c1 e1 k1 => hb.run ρ1 σ w1 _ _ c1 q1 fun y dy ρ2 w2 q2 c2 e2 k2 => by
    obtain ⟨d, h1, q3⟩ := withD.elim q2
    obtain ⟨d', h2, q4⟩ := withD.elim q3
    exact hop c2 (ShRd.of c2 k1 e2 h1) (ShRd.of c2 k2 (Ext.refl w2) h2) q4 fun v dv w' q c' e' k' => k v dv ρ2 w' q c' ((e1.trans e2).trans e') (k'.pre (e1.trans e2))
theorem addW_m : M2 addW := by
  intro d d' Q Q' h q
  cases d <;> cases d' <;> first | exact (show False from q).elim | exact h _ q | exact ⟨q.1, h _ q.2⟩
theorem subW_m : M2 subW := by
  intro d d' Q Q' h q
  cases d <;> cases d' <;> first | exact (show False from q).elim | exact h _ q
theorem mulW_m : M2 mulW := by
  intro d d' Q Q' h q
  cases d <;> cases d' <;> first | exact (show False from q).elim | exact ⟨q.1, h _ q.2⟩
theorem fdivW_m : M2 fdivW := by
  intro d d' Q Q' h q
  cases d <;> cases d' <;> first | exact (show False from q).elim | exact ⟨q.1, h _ q.2⟩
theorem modW_m : M2 modW := by
  intro d d' Q Q' h q
  cases d <;> cases d' <;> first | exact (show False from q).elim | exact ⟨q.1, h _ q.2⟩
theorem powW_m : M2 powW := by
  intro d d' Q Q' h q
  cases d <;> cases d' <;> first | exact (show False from q).elim | exact ⟨q.1, h _ q.2⟩
theorem opW_m (op : Operator) : M2 (opW op) := by
  cases op
  case Add => exact addW_m
  case Sub => exact subW_m
  case Mult => exact mulW_m
  case FloorDiv => exact fdivW_m
  case Mod => exact modW_m
  case Pow => exact powW_m
  all_goals exact fun _ q => (show False from q).elim
theorem ltW_m : M2 ltW := by
  intro d d' Q Q' h q
  cases d <;> cases d' <;> first | exact (show False from q).elim | exact h _ q
theorem leW_m : M2 leW := by
  intro d d' Q Q' h q
  cases d <;> cases d' <;> first | exact (show False from q).elim | exact h _ q
theorem gtW_m : M2 gtW := by
  intro d d' Q Q' h q
  cases d <;> cases d' <;> first | exact (show False from q).elim | exact h _ q
theorem geW_m : M2 geW := by
  intro d d' Q Q' h q
  cases d <;> cases d' <;> first | exact (show False from q).elim | exact h _ q
theorem eqW_m : M2 eqW := by
  intro d d' Q Q' h q
  cases d <;> cases d' <;> first | exact h _ q | exact ⟨q.1, h _ q.2⟩
theorem neW_m : M2 neW := by
  intro d d' Q Q' h q
  cases d <;> cases d' <;> first | exact h _ q | exact ⟨q.1, h _ q.2⟩
theorem inW_m : M2 inW := by
  intro d d' Q Q' h q
  cases d <;> cases d' <;> first | exact (show False from q).elim | exact ⟨q.1, h _ q.2⟩
theorem ninW_m : M2 ninW := by
  intro d d' Q Q' h q
  cases d <;> cases d' <;> first | exact (show False from q).elim | exact ⟨q.1, h _ q.2⟩
theorem isW_m : M2 isW := by
  intro d d' Q Q' h q
  cases d <;> cases d' <;> first | exact (show False from q).elim | exact h _ q
theorem isnW_m : M2 isnW := by
  intro d d' Q Q' h q
  cases d <;> cases d' <;> first | exact (show False from q).elim | exact h _ q
theorem cmpW_m (op : CmpOp) : M2 (cmpW op) := by
  cases op
  case Lt => exact ltW_m
  case LtE => exact leW_m
  case Gt => exact gtW_m
  case GtE => exact geW_m
  case Eq => exact eqW_m
  case NotEq => exact neW_m
  case In => exact inW_m
  case NotIn => exact ninW_m
  case Is => exact isW_m
  case IsNot => exact isnW_m
theorem de_bin {op : Operator} (ha : DE X a ta) (hb : DE X b tb) : DE X (.BinOp a op b pos) (d2 (opW op) ta tb) where
  run := fun ρ σ w Q QQ cf h k => wp_of (pe_op (opst_ok X _) pe_star pe_star) (run2 ha hb (op_ok op) cf h k)
  mono := d2_mono (opW_m op) ha.mono hb.mono
theorem de_cmp {op : CmpOp} (hu : X.A.units + 65 < cLine) (ha : DE X a ta) (hb : DE X b tb) (hm : behindInMarks op b = false := by first | exact nomark _ | with_unfolding_all rfl) : DE X (.Compare a [op] [b] pos) (d2 (cmpW op) ta tb) where
  run := fun ρ σ w Q QQ cf h k => wp_of (pe_cmpR (opst_ok X _) pe_star pe_star hm) (run2 ha hb (cmp_ok hu op) cf h k)
  mono := d2_mono (cmpW_m op) ha.mono hb.mono
def negW : PD → (DV → Prop) → Prop
  | .int i, Q => Q (.dat (.int (-i)))
  | _, _ => False
theorem de_neg (ha : DE X a ta) : DE X (.UnaryOp .USub a pos) (d1 negW ta) where
  run := fun ρ σ w Q QQ cf h k => wp_of (pe_un un_neg pe_star) (ha.run ρ σ w _ _ cf h fun x dx ρ1 w1 q1 c1 e1 k1 => by
    obtain ⟨d, h1, q3⟩ := withD.elim q1
    have r := ShRd.of c1 k1 (Ext.refl w1) h1
    cases d with
    | int i => rw [r.int]; exact ⟨i, rfl, k _ _ ρ1 w1 q3 c1 e1 (.int _)⟩
    | _ => exact (show False from q3).elim)
  mono := fun ρ Q Q' h q => ha.mono ρ _ _ (fun x ρ1 q1 => withD.mono (fun d q2 => by cases d <;> first | exact (show False from q2).elim | exact h _ _ q2) q1) q

/-! ### bools -/
def withB : Option PD → (Bool → Prop) → Prop
  | some (.bool b), k => k b
  | _, _ => False
theorem withB.elim {o : Option PD} {k : Bool → Prop} (h : withB o k) : ∃ b, o = some (.bool b) ∧ k b := by
  cases o with
  | none => exact (show False from h).elim
  | some d => cases d with
    | bool b => exact ⟨b, rfl, h⟩
    | _ => exact (show False from h).elim
theorem withB.mono {o : Option PD} {k k' : Bool → Prop} (hk : ∀ b, k b → k' b) (h : withB o k) : withB o k' := by
  obtain ⟨b, rfl, q⟩ := withB.elim h
  exact hk b q
theorem ValOk.isBl {K : PySem.W.Frag} {ρ : List Slot} {σ : L2.St} {w w1 : Wd} {v : V} {dv : DV} {b : Bool} (c : Cfg K ρ σ w1) (k : ValOk K σ w w1 v dv) (h : rd ρ dv = some (.bool b)) : v = .bl b := (ShRd.of c k (Ext.refl w1) h).bl
def dAnd (ta tb : DT) : DT := fun ρ Q => ta ρ fun x ρ1 => withB (rd ρ1 x) fun b => cnd b (tb ρ1 Q) (Q (.dat (.bool false)) ρ1)
def dOr (ta tb : DT) : DT := fun ρ Q => ta ρ fun x ρ1 => withB (rd ρ1 x) fun b => cnd b (Q (.dat (.bool true)) ρ1) (tb ρ1 Q)
theorem de_one {op : BoolOp} (ha : DE X a ta) : DE X (.BoolOp op [a] pos) ta where
  run := fun ρ σ w Q QQ cf h k => wp_of (pe_one pe_star) (ha.run ρ σ w Q QQ cf h k)
  mono := ha.mono
theorem de_and {rest : List Expr} (ha : DE X a ta) (hb : DE X (.BoolOp .And (b :: rest) pos) tb) : DE X (.BoolOp .And (a :: b :: rest) pos) (dAnd ta tb) where
  run := fun ρ σ w Q QQ cf h k => wp_of (pe_and pe_star pe_star) (ha.run ρ σ w _ _ cf h fun x dx ρ1 w1 q1 c1 e1 k1 => by
    obtain ⟨b, h1, q2⟩ := withB.elim q1
    refine ⟨b, k1.isBl c1 h1, ?_⟩
    cases b with
    | true => exact iteT (hb.run ρ1 σ w1 Q QQ c1 (q2.t rfl) fun v dv ρ' w' q' c' e' k' => k v dv ρ' w' q' c' (e1.trans e') (k'.pre e1))
    | false => exact iteF (k _ _ ρ1 w1 (q2.f rfl) c1 e1 (.bl false)))
  mono := fun ρ Q Q' h q => ha.mono ρ _ _ (fun x ρ1 q1 => withB.mono (fun b q2 => cnd.mono (hb.mono ρ1 Q Q' h) (h _ _) q2) q1) q
theorem de_or {rest : List Expr} (ha : DE X a ta) (hb : DE X (.BoolOp .Or (b :: rest) pos) tb) : DE X (.BoolOp .Or (a :: b :: rest) pos) (dOr ta tb) where
  run := fun ρ σ w Q QQ cf h k => wp_of (pe_or pe_star pe_star) (ha.run ρ σ w _ _ cf h fun x dx ρ1 w1 q1 c1 e1 k1 => by
    obtain ⟨b, h1, q2⟩ := withB.elim q1
    refine ⟨b, k1.isBl c1 h1, ?_⟩
    cases b with
    | false => exact iteF (hb.run ρ1 σ w1 Q QQ c1 (q2.f rfl) fun v dv ρ' w' q' c' e' k' => k v dv ρ' w' q' c' (e1.trans e') (k'.pre e1))
    | true => exact iteT (k _ _ ρ1 w1 (q2.t rfl) c1 e1 (.bl true)))
  mono := fun ρ Q Q' h q => ha.mono ρ _ _ (fun x ρ1 q1 => withB.mono (fun b q2 => cnd.mono (h _ _) (hb.mono ρ1 Q Q' h) q2) q1) q
def dNot (ta : DT) : DT := fun ρ Q => ta ρ fun x ρ1 => withB (rd ρ1 x) fun b => Q (.dat (.bool (!b))) ρ1
theorem de_not (ha : DE X a ta) : DE X (.UnaryOp .Not a pos) (dNot ta) where
  run := fun ρ σ w Q QQ cf h k => wp_of (pe_not pe_star) (ha.run ρ σ w _ _ cf h fun x dx ρ1 w1 q1 c1 e1 k1 => by
    obtain ⟨b, h1, q2⟩ := withB.elim q1
    exact ⟨b, k1.isBl c1 h1, k _ _ ρ1 w1 q2 c1 e1 (.bl _)⟩)
  mono := fun ρ Q Q' h q => ha.mono ρ _ _ (fun x ρ1 q1 => withB.mono (fun b q2 => h _ _ q2) q1) q

/-! ### tests -/
def tVal (ta : DT) : DTt := fun ρ Q => ta ρ fun x ρ1 => withB (rd ρ1 x) fun b => Q b ρ1
theorem dt_val (ha : DE X a ta) (he : ∀ whole, isTrue a X.env whole = (do let v ← whole; standAt a.pos; holding [v] (truthy v)) := by intro _; rfl) : DTs X a (tVal ta) where
  run := fun ρ σ w Q QQ cf h k => wpt_of (pt_val pe_star he) (ha.run ρ σ w _ _ cf h fun x dx ρ1 w1 q1 c1 e1 k1 => by
    obtain ⟨b, h1, q2⟩ := withB.elim q1
    exact ⟨b, k1.isBl c1 h1, k b ρ1 w1 q2 c1 e1⟩)
  mono := fun ρ Q Q' h q => ha.mono ρ _ _ (fun x ρ1 q1 => withB.mono (fun b q2 => h _ _ q2) q1) q
theorem dt_cmp {op : CmpOp} (hu : X.A.units + 65 < cLine) (ha : DE X a ta) (hb : DE X b tb) (hm : behindInMarks op b = false := by first | exact nomark _ | with_unfolding_all rfl) : DTs X (.Compare a [op] [b] pos) (tVal (d2 (cmpW op) ta tb)) where
  run := fun ρ σ w Q QQ cf h k => wpt_of (pt_cmpR (opst_ok X _) pe_star pe_star hm) (run2 ha hb (cmp_ok hu op) cf h fun v dv ρ' w' q c' e' k' => by
    obtain ⟨b, h1, q2⟩ := withB.elim q
    exact ⟨b, k'.isBl c' h1, k b ρ' w' q2 c' e'⟩)
  mono := fun ρ Q Q' h q => d2_mono (W := cmpW op) (cmpW_m op) ha.mono hb.mono ρ (fun x ρ1 => withB (rd ρ1 x) fun b => Q b ρ1) (fun x ρ1 => withB (rd ρ1 x) fun b => Q' b ρ1) (fun x ρ1 q1 => withB.mono (fun b q2 => h _ _ q2) q1) q
/-- the truth of an int, a list, a tuple .. -/
def truW : PD → (Bool → Prop) → Prop
  | .none, k => k false
  | .bool b, k => k b
  | .int i, k => k (i != 0)
  | .list ds, k => k (!ds.isEmpty)
  | .tuple ds, k => k (!ds.isEmpty)
  | _, _ => False
theorem truW_m {d : PD} {k k' : Bool → Prop} (h : ∀ b, k b → k' b) (q : truW d k) : truW d k' := by
  cases d <;> first | exact (show False from q).elim | exact h _ q
theorem dda_emp {K : PySem.W.Frag} {G : Hp} {vs : List V} {ds : List PD} (h : DdAll K G vs ds) : (!vs.isEmpty) = !ds.isEmpty := by cases h <;> rfl
theorem tru_of {K : PySem.W.Frag} {ρ : List Slot} {σ : L2.St} {w : Wd} {x : V} {d : PD} {k : Bool → Prop} (c : Cfg K ρ σ w) (r : ShRd K w x d) (q : truW d k) : ∃ b, TruV K x w.H b ∧ k b := by
  cases d with
  | none => rw [r.non]; exact ⟨false, rfl, q⟩
  | bool b => rw [r.bl]; exact ⟨b, rfl, q⟩
  | int i => rw [r.int]; exact ⟨_, rfl, q⟩
  | list ds =>
    obtain ⟨l, vs, rfl, hl, ha⟩ := r
    exact ⟨_, .inl ⟨vs, SqL.of hl, rfl⟩, by rw [dda_emp ha]; exact q⟩
  | tuple ds =>
    obtain ⟨l, vs, rfl, hl, ha, _⟩ := r.tup c.ex
    exact ⟨_, .inr (.inl ⟨vs, SqT.of hl, rfl⟩), by rw [dda_emp ha]; exact q⟩
  | _ => exact (show False from q).elim
def tTru (ta : DT) : DTt := fun ρ Q => ta ρ fun x ρ1 => withD (rd ρ1 x) fun d => truW d fun b => Q b ρ1
theorem dt_tru (ha : DE X a ta) (he : ∀ whole, isTrue a X.env whole = (do let v ← whole; standAt a.pos; holding [v] (truthy v)) := by intro _; rfl) : DTs X a (tTru ta) where
  run := fun ρ σ w Q QQ cf h k => wpt_of (pt_truth pe_star he) (ha.run ρ σ w _ _ cf h fun x dx ρ1 w1 q1 c1 e1 k1 => by
    obtain ⟨d, h1, q2⟩ := withD.elim q1
    obtain ⟨b, tb, q3⟩ := tru_of c1 (ShRd.of c1 k1 (Ext.refl w1) h1) q2
    exact ⟨b, tb, k b ρ1 w1 q3 c1 e1⟩)
  mono := fun ρ Q Q' h q => ha.mono ρ _ _ (fun x ρ1 q1 => withD.mono (fun b q2 => truW_m (fun b => h b ρ1) q2) q1) q
def tAndD (t u : DTt) : DTt := fun ρ Q => t ρ fun b ρ1 => cnd b (u ρ1 Q) (Q false ρ1)
def tOrD (t u : DTt) : DTt := fun ρ Q => t ρ fun b ρ1 => cnd b (Q true ρ1) (u ρ1 Q)
def tNotD (t : DTt) : DTt := fun ρ Q => t ρ fun b ρ1 => Q (!b) ρ1
variable {t u : DTt}
theorem dw_and1 (ha : DTs X a t) : DTw X (.BoolOp .And [a] pos) t where
  run := fun ρ σ w Q QQ cf h k => wpw_of (pw_and1 pt_star) (ha.run ρ σ w Q QQ cf h k)
  mono := ha.mono
theorem dw_or1 (ha : DTs X a t) : DTw X (.BoolOp .Or [a] pos) t where
  run := fun ρ σ w Q QQ cf h k => wpw_of (pw_or1 pt_star) (ha.run ρ σ w Q QQ cf h k)
  mono := ha.mono
theorem dw_and {rest : List Expr} (ha : DTs X a t) (hb : DTw X (.BoolOp .And (b :: rest) pos) u) : DTw X (.BoolOp .And (a :: b :: rest) pos) (tAndD t u) where
  run := fun ρ σ w Q QQ cf h k => wpw_of (pw_and pt_star pw_star) (ha.run ρ σ w _ _ cf h fun b ρ1 w1 q1 c1 e1 => by
    cases b with
    | true => exact iteT (hb.run ρ1 σ w1 Q QQ c1 (q1.t rfl) fun b ρ' w' q' c' e' => k b ρ' w' q' c' (e1.trans e'))
    | false => exact iteF (k false ρ1 w1 (q1.f rfl) c1 e1))
  mono := fun ρ Q Q' h q => ha.mono ρ _ _ (fun b ρ1 q1 => cnd.mono (hb.mono ρ1 Q Q' h) (h _ _) q1) q
theorem dw_or {rest : List Expr} (ha : DTs X a t) (hb : DTw X (.BoolOp .Or (b :: rest) pos) u) : DTw X (.BoolOp .Or (a :: b :: rest) pos) (tOrD t u) where
  run := fun ρ σ w Q QQ cf h k => wpw_of (pw_or pt_star pw_star) (ha.run ρ σ w _ _ cf h fun b ρ1 w1 q1 c1 e1 => by
    cases b with
    | false => exact iteF (hb.run ρ1 σ w1 Q QQ c1 (q1.f rfl) fun b ρ' w' q' c' e' => k b ρ' w' q' c' (e1.trans e'))
    | true => exact iteT (k true ρ1 w1 (q1.t rfl) c1 e1))
  mono := fun ρ Q Q' h q => ha.mono ρ _ _ (fun b ρ1 q1 => cnd.mono (h _ _) (hb.mono ρ1 Q Q' h) q1) q
theorem dt_w (h : DTw X a t) : DTs X a t where
  run := fun ρ σ w Q QQ cf q k => wpt_of pw_star.pt (h.run ρ σ w Q QQ cf q k)
  mono := h.mono
theorem dt_not (ha : DTs X a t) : DTs X (.UnaryOp .Not a pos) (tNotD t) where
  run := fun ρ σ w Q QQ cf h k => wpt_of (pt_not pt_star) (ha.run ρ σ w _ _ cf h fun b ρ1 w1 q1 c1 e1 => k (!b) ρ1 w1 q1 c1 e1)
  mono := fun ρ Q Q' h q => ha.mono ρ _ _ (fun b ρ1 q1 => h _ _ q1) q
def dIf (t : DTt) (ta tb : DT) : DT := fun ρ Q => t ρ fun b ρ1 => cnd b (ta ρ1 Q) (tb ρ1 Q)
theorem de_if (hc : DTs X c t) (ha : DE X a ta) (hb : DE X b tb) : DE X (.IfExp c a b pos) (dIf t ta tb) where
  run := fun ρ σ w Q QQ cf h k => wp_of (pe_ifExp pt_star pe_star pe_star) (hc.run ρ σ w _ _ cf h fun b ρ1 w1 q1 c1 e1 => by
    cases b with
    | true => exact iteT (ha.run ρ1 σ w1 Q QQ c1 (q1.t rfl) fun v dv ρ' w' q' c' e' k' => k v dv ρ' w' q' c' (e1.trans e') (k'.pre e1))
    | false => exact iteF (hb.run ρ1 σ w1 Q QQ c1 (q1.f rfl) fun v dv ρ' w' q' c' e' k' => k v dv ρ' w' q' c' (e1.trans e') (k'.pre e1)))
  mono := fun ρ Q Q' h q => hc.mono ρ _ _ (fun b ρ1 q1 => cnd.mono (ha.mono ρ1 Q Q' h) (hb.mono ρ1 Q Q' h) q1) q
/-- a or b, by truth -/
def dOrT (ta tb : DT) : DT := fun ρ Q => ta ρ fun x ρ1 => withD (rd ρ1 x) fun d => truW d fun k => cnd k (Q x ρ1) (tb ρ1 Q)
theorem de_orT {rest : List Expr} (ha : DE X a ta) (hb : DE X (.BoolOp .Or (b :: rest) pos) tb) : DE X (.BoolOp .Or (a :: b :: rest) pos) (dOrT ta tb) where
  run := fun ρ σ w Q QQ cf h k => wp_of (pe_orT pe_star pe_star) (ha.run ρ σ w _ _ cf h fun x dx ρ1 w1 q1 c1 e1 k1 => by
    obtain ⟨d, h1, q2⟩ := withD.elim q1
    obtain ⟨b, tb, q3⟩ := tru_of c1 (ShRd.of c1 k1 (Ext.refl w1) h1) q2
    refine ⟨b, tb, ?_⟩
    cases b with
    | false => exact iteF (hb.run ρ1 σ w1 Q QQ c1 (q3.f rfl) fun v dv ρ' w' q' c' e' k' => k v dv ρ' w' q' c' (e1.trans e') (k'.pre e1))
    | true => exact iteT (k _ _ ρ1 w1 (q3.t rfl) c1 e1 k1))
  mono := fun ρ Q Q' h q => ha.mono ρ _ _ (fun x ρ1 q1 => withD.mono (fun d q2 => truW_m (fun b q3 => cnd.mono (h _ _) (hb.mono ρ1 Q Q' h) q3) q2) q1) q
end
end Cu

set_option Elab.async false
set_option linter.all false
set_option maxRecDepth 100000
set_option maxHeartbeats 4000000
namespace Cu
open PySem PySem.Spec PyProof.Rows L2

/-! ### t[::-1] of a tuple -/
section
variable {prog : Program} {w : World} {A : Around} {E : Value → Shared → Prop} {s : Shared}
theorem adjust_rev (n : Nat) : Builtin.Slice.sliceAdjust none none (-1) (n : Int) = ((n : Int) - 1, -1) := by
  unfold Builtin.Slice.sliceAdjust
  simp
theorem places_rev (n : Nat) : Builtin.Slice.slicePlaces ((n : Int) - 1) (-1) (-1) = n := by
  unfold Builtin.Slice.slicePlaces
  have h1 : ¬ ((-1 : Int) > 0) := by decide
  simp only [h1, if_false]
  split <;> first | omega | (simp; omega) | simp
theorem sliceApplied_rev {sl : Addr} {vl vu vs : Value} {n : Nat} {Q : Int × Int × Nat → Shared → Prop} (hs : s.heap.IsSliceOf sl vl vu vs) (pl : IsPart vl none) (pu : IsPart vu none) (ps : IsPart vs (some (-1)))
    (h : Q ((n : Int) - 1, -1, n) s) : wpAny (model prog w) A (Builtin.Slice.sliceApplied (.ref sl) (pure (n : Int))) Q E s := by
  obtain ⟨os, hos, hcs, hds⟩ := id hs
  unfold Builtin.Slice.sliceApplied Builtin.Slice.sliceFields
  refine wpAny_bind (wpAny_bind (wpAny_field hos hds (x := vl) rfl (wpAny_bind (wpAny_field hos hds (x := vu) rfl (wpAny_bind (wpAny_field hos hds (x := vs) rfl (wpAny_pure ?_)))))))
  refine wpAny_bind (HT.slicePart_ ps ?_)
  show wpAny _ _ (if ((-1 : Int) == 0) = true then _ else _) _ _ s
  rw [if_neg (by decide)]
  refine wpAny_bind (HT.slicePart_ pl (wpAny_bind (HT.slicePart_ pu (wpAny_bind (wpAny_pure ?_)))))
  show wpAny _ _ (match Builtin.Slice.sliceAdjust none none (-1) (n : Int) with | (lo, hi) => pure (lo, (-1 : Int), Builtin.Slice.slicePlaces lo hi (-1))) _ _ s
  rw [adjust_rev n]
  show wpAny _ _ (pure ((n : Int) - 1, (-1 : Int), Builtin.Slice.slicePlaces ((n : Int) - 1) (-1) (-1))) _ _ s
  rw [places_rev]
  exact wpAny_pure h
theorem fm_congr {α β : Type} {f g : α → Option β} : ∀ {l : List α}, (∀ x, x ∈ l → f x = g x) → l.filterMap f = l.filterMap g
  | [], _ => rfl
  | x :: l, h => by
    rw [List.filterMap_cons, List.filterMap_cons, h x List.mem_cons_self, fm_congr fun y hy => h y (List.mem_cons_of_mem _ hy)]
theorem pick_rev (xs : Array Value) : ((List.range xs.size).filterMap fun (m : Nat) => xs[(((xs.size : Nat) : Int) - 1 + (m : Int) * (-1)).toNat]?).toArray = xs.toList.reverse.toArray := by
  have e : (List.range xs.size).filterMap (fun (m : Nat) => xs[(((xs.size : Nat) : Int) - 1 + (m : Int) * (-1)).toNat]?) = ((List.range xs.size).map (fun k => xs.size - 1 - k)).filterMap (xs[·]?) := by
    rw [List.filterMap_map]
    refine fm_congr fun k hk => ?_
    have := List.mem_range.mp hk
    show xs[(((xs.size : Nat) : Int) - 1 + (k : Int) * (-1)).toNat]? = xs[xs.size - 1 - k]?
    rw [show (((xs.size : Nat) : Int) - 1 + (k : Int) * (-1)).toNat = xs.size - 1 - k by omega]
  rw [e, PySem.W.krv_range, List.filterMap_reverse, PySem.W.krv_all]
theorem getItem_tuple_rev {t sl : Addr} {items : Array Value} {vl vu vs : Value} {Q : Value → Shared → Prop} (ht : IsTup s.heap t items) (hs : s.heap.IsSliceOf sl vl vu vs) (pl : IsPart vl none) (pu : IsPart vu none) (ps : IsPart vs (some (-1)))
    (h : Q (.ref s.heap.objs.size) { s with heap := s.heap.push { cls := .type "tuple", data := .seq items.toList.reverse.toArray } })
    (hsz : items.size ≤ sizeLine) : wpAny (model prog w) A (getItem (.ref t) (.ref sl)) Q E s := by
  have htake : sizeOk (.seq items.toList.reverse.toArray) := by
    show items.toList.reverse.toArray.size ≤ sizeLine
    rw [List.size_toArray, List.length_reverse, Array.length_toList]
    omega
  obtain ⟨os, hos, hcs, hds⟩ := id hs
  have hTs : s.TypeIs (.ref sl) "slice" := ⟨os, hos, hcs⟩
  unfold getItem
  try with_reducible refine wpAny_holding ?_
  first | refine wpAny_bind (wpAny_pure ?_) | skip
  refine wpAny_bind (wpAny_sequenceKey ht.typeIs (by decide) ?_)
  refine wpAny_bind (wpAny_callSpecial?_slot (name := Str.ofString "__getitem__") ht.typeIs PyProof.Rows.slot_tuple_getitem
    (wpAny_call_entry PyProof.Rows.slot_tuple_getitem ht.typeIs entry_tuple_getitem ?_ (args_tuple_getitem _ _)))
  show wpAny _ _ (Builtin.Tuple.tupleItemsOf (.ref t) >>= _) _ _ s
  refine wpAny_bind (tupleItemsOf_ ht ?_)
  refine wpAny_bind (wpAny_typeOf hTs ?_)
  rw [if_pos (by decide)]
  refine wpAny_bind (sliceApplied_rev hs pl pu ps ?_)
  have hno : ¬ ((((items.size : Nat) : Int) - 1 == 0 && (-1 : Int) == 1 && items.size == items.size) = true) := by
    intro q
    rw [Bool.and_eq_true, Bool.and_eq_true] at q
    exact absurd q.1.2 (by decide)
  show wpAny _ _ (if (((items.size : Nat) : Int) - 1 == 0 && (-1 : Int) == 1 && items.size == items.size) = true then _ else _) _ _ s
  rw [if_neg hno, pick_rev]
  first
    | exact wpAny_bind (m := Builtin.Tuple.tupleExact _) (wpAny_newObj_type (wpAny_pure ⟨_, rfl, wpAny_pure h⟩) htake)
    | exact wpAny_bind (m := Builtin.Tuple.tupleExact _) (wpAny_newObj_type (wpAny_bind (wpAny_pure (wpAny_pure ⟨_, rfl, wpAny_pure h⟩))) htake)
    | exact wpAny_bind (wpAny_bind (m := Builtin.Tuple.tupleExact _) (wpAny_newObj_type (wpAny_pure (wpAny_pure ⟨_, rfl, wpAny_pure h⟩)) htake))
    | exact wpAny_bind (wpAny_bind (m := Builtin.Tuple.tupleExact _) (wpAny_newObj_type (wpAny_pure ⟨_, rfl, wpAny_pure h⟩) htake))
end
section
variable {X : Cx}
def tRevT (K : PySem.W.Frag) (te : TE) : TE := fun σ H Q => te σ H fun x H1 => ∃ a xs, x = .ref a ∧ SqT K H1 a xs ∧ ∀ p, H1 p = none → Q (.ref p) (upd H1 p (.tup xs.reverse))
theorem pe_revT {e : Expr} {te : TE} {k : Nat} {p1 p2 p3 pos : Pos} (he : PE X e te) : PE X (.Subscript e (.Slice none none (some (.UnaryOp .USub (.Constant (.int 1) k p1) p2)) p3) pos) (tRevT X.K te) := by
  refine ⟨fun pins s σ H Q I h => ?_⟩
  refine Subscript_ (thn (he.run pins s σ H _ I h) fun v s1 ⟨x, H1, I1, r1, q1⟩ => ?_)
  obtain ⟨a, xs, ex, hx, q⟩ := q1
  subst ex
  cases r1
  have hst : PO X (some (.UnaryOp .USub (.Constant (.int 1) k p1) p2)) (tPart (tUn (rU fun i => .int (-i)) (tC (.int 1)))) := po_some (pe_un un_neg pe_int)
  refine wpAny_Slice (thn (po_none.run pins s1 σ H1 (fun o H2 => o = none ∧ H2 = H1) I1 ⟨rfl, rfl⟩) fun vl s2 ⟨l, H2, I2, pl, el, e2⟩ => ?_)
  subst el e2
  refine thn (po_none.run pins s2 σ H2 (fun o H3 => o = none ∧ H3 = H2) I2 ⟨rfl, rfl⟩) fun vu s3 ⟨u, H3, I3, pu, eu, e3⟩ => ?_
  subst eu e3
  refine thn (hst.run pins s3 σ H3 (fun o H4 => o = some (-1) ∧ H4 = H3) I3 ⟨1, rfl, -1, rfl, rfl, rfl⟩) fun vs s4 ⟨o, H4, I4, ps, eo, e4⟩ => ?_
  subst eo e4
  have I5 : Inv X pins σ H4 { s4 with heap := s4.heap.push { cls := .type "slice", data := .fields #[vl, vu, vs] } } := I4.kept (t' := s4.toks) fun b ob q => Heap.get?_push_of_some _ q
  obtain ⟨its, r, ht, hz⟩ := I5.tuple hx
  have hlen := r.length
  show wpAny (model X.prog X.w) X.A (subscriptTail e (.Slice none none (some (.UnaryOp .USub (.Constant (.int 1) k p1) p2)) p3) (.ref a) (.ref s4.heap.objs.size)) (EP X pins σ Q) X.xe { s4 with heap := s4.heap.push { cls := .type "slice", data := .fields #[vl, vu, vs] } }
  refine tail_any (ops := [.ref a, .ref s4.heap.objs.size]) ht.typeIs (PyProof.Rows.slot_tuple_getitem.lookup) ?_ (by with_unfolding_all rfl)
  refine getItem_tuple_rev ht (Heap.IsSliceOf.new _ vl vu vs) pl pu ps ?_ (by rw [List.size_toArray]; omega)
  refine ⟨.ref _, _, I5.laid (t' := s4.toks) (o := .tup xs.reverse) (fun b ob q => Heap.get?_push_of_some _ q) (Nat.le_refl _) ?_, rfl, q _ (I5.hok.fresh (Nat.le_refl _))⟩
  exact ⟨by rw [List.length_reverse]; exact hz, _, r.reverse, IsTup.new _ _⟩
end
end Cu

set_option Elab.async false
set_option linter.all false
set_option maxRecDepth 100000
set_option maxHeartbeats 4000000
namespace Cu
open PySem PySem.Spec PyProof.Rows L2

/-! ### subscripts, slices -/
section
variable {X : Cx} {a b c e f : Expr} {es : List Expr} {ta tb tc te : DT} {tt : DTt} {pos : Pos}
theorem ixst_ok (X : Cx) : IxR X (IxSt X) := fun value slice pins s σ H x y v u Q I rx ry h hs => by
  obtain ⟨r, hr, q⟩ := h
  exact hr value slice pins s σ H x y v u Q I rx ry q hs
theorem atI_dda {K : PySem.W.Frag} {G : Hp} {vs : List V} {ds : List PD} {i : Int} {d : PD} (h : DdAll K G vs ds) (q : atI ds i = some d) : ∃ v, atI vs i = some v ∧ Dd K G v d := by
  unfold atI at q ⊢
  rw [dpa_len h]
  cases hx : ixN ds.length i with
  | none => rw [hx] at q; cases q
  | some j =>
    rw [hx] at q
    exact dpa_get h q
def ixW : PD → PD → (DV → Prop) → Prop
  | .list ds, .int i, Q => ∃ d, atI ds i = some d ∧ Q (.dat d)
  | .tuple ds, .int i, Q => ∃ d, atI ds i = some d ∧ Q (.dat d)
  | .str z, .int i, Q => z.length ≤ 16000000 ∧ ∃ c, atI z.cps.toList i = some c ∧ Q (.dat (.str ⟨#[c]⟩))
  | _, _, _ => False
theorem ixW_m : M2 ixW := by
  intro d d' Q Q' h q
  cases d <;> cases d' <;> first | exact (show False from q).elim | exact (let ⟨d, e, q⟩ := q; ⟨d, e, h _ q⟩) | exact ⟨q.1, let ⟨c, e, q⟩ := q.2; ⟨c, e, h _ q⟩⟩
theorem de_ix (ha : DE X a ta) (hb : DE X b tb) (hs : PlainIx b := by exact fun _ _ => rfl) : DE X (.Subscript a b pos) (d2 ixW ta tb) where
  run := fun ρ σ w Q QQ cf h k => wp_of (pe_ix (ixst_ok X) pe_star pe_star hs) (run2 (fv := IxSt X) ha hb (fun {ρ w x y d d' Q QQ} c h1 h2 hW k => by
    cases d with
    | list ds =>
      cases d' with
      | int i =>
        obtain ⟨l, vs, rfl, hl, hx⟩ := h1
        rw [h2.int]
        obtain ⟨d, e, q⟩ := hW
        obtain ⟨v, ev, hd⟩ := atI_dda hx e
        exact ⟨_, ix_list, l, vs, i, v, rfl, rfl, SqL.of hl, ev, k.dat c hd q⟩
      | _ => exact (show False from hW).elim
    | tuple ds =>
      cases d' with
      | int i =>
        obtain ⟨l, vs, rfl, hl, hx, _⟩ := h1.tup c.ex
        rw [h2.int]
        obtain ⟨d, e, q⟩ := hW
        obtain ⟨v, ev, hd⟩ := atI_dda hx e
        exact ⟨_, ix_tup, l, vs, i, v, rfl, rfl, SqT.of hl, ev, k.dat c hd q⟩
      | _ => exact (show False from hW).elim
    | str z =>
      cases d' with
      | int i =>
        rw [h1.str, h2.int]
        obtain ⟨hz, cc, e, q⟩ := hW
        exact ⟨_, ix_str, z, i, cc, rfl, rfl, cat_line hz, e, k.str c q⟩
      | _ => exact (show False from hW).elim
    | _ => exact (show False from by cases d' <;> exact hW).elim) cf h k)
  mono := d2_mono ixW_m ha.mono hb.mono
/-- a slice's part -/
abbrev DTo := List Slot → (Option Int → List Slot → Prop) → Prop
structure DO (X : Cx) (e : Option Expr) (t : DTo) : Prop where
  run : ∀ (ρ : List Slot) (σ : L2.St) (w : Wd) (Q : Option Int → List Slot → Prop) (QQ : Option Int → Hp → Prop), Cfg X.K ρ σ w → t ρ Q →
    (∀ o ρ' w', Q o ρ' → Cfg X.K ρ' σ w' → Ext w w' → QQ o w'.H) → ∃ to, PO X e to ∧ to σ w.H QQ
  star : ∃ to : TO, PO X e to ∧ ∀ (ρ : List Slot) (σ : L2.St) (w : Wd) (Q : Option Int → List Slot → Prop) (QQ : Option Int → Hp → Prop), Cfg X.K ρ σ w → t ρ Q → (∀ o ρ' w', Q o ρ' → Cfg X.K ρ' σ w' → Ext w w' → QQ o w'.H) → to σ w.H QQ
  mono : ∀ (ρ : List Slot) (Q Q' : Option Int → List Slot → Prop), (∀ o ρ', Q o ρ' → Q' o ρ') → t ρ Q → t ρ Q'
def dNoPart : DTo := fun ρ Q => Q none ρ
def dPart (ta : DT) : DTo := fun ρ Q => ta ρ fun x ρ1 => withD (rd ρ1 x) fun d => match d with
  | .int i => Q (some i) ρ1
  | _ => False
theorem do_none : DO X none dNoPart :=
  have st : ∀ (ρ : List Slot) (σ : L2.St) (w : Wd) (Q : Option Int → List Slot → Prop) (QQ : Option Int → Hp → Prop), Cfg X.K ρ σ w → dNoPart ρ Q → (∀ o ρ' w', Q o ρ' → Cfg X.K ρ' σ w' → Ext w w' → QQ o w'.H) → tNoPart σ w.H QQ :=
    fun ρ σ w Q QQ cf h k => k none ρ w h cf (Ext.refl w)
  ⟨fun ρ σ w Q QQ cf h k => ⟨_, po_none, st ρ σ w Q QQ cf h k⟩, ⟨_, po_none, st⟩, fun _ _ _ h q => h _ _ q⟩
theorem do_some (ha : DE X a ta) : DO X (some a) (dPart ta) :=
  have st : ∀ (ρ : List Slot) (σ : L2.St) (w : Wd) (Q : Option Int → List Slot → Prop) (QQ : Option Int → Hp → Prop), Cfg X.K ρ σ w → dPart ta ρ Q → (∀ o ρ' w', Q o ρ' → Cfg X.K ρ' σ w' → Ext w w' → QQ o w'.H) → tPart (Wp X a) σ w.H QQ :=
    fun ρ σ w Q QQ cf h k => ha.run ρ σ w _ _ cf h fun x dx ρ1 w1 q1 c1 e1 k1 => by
      obtain ⟨d, h1, q2⟩ := withD.elim q1
      have r := ShRd.of c1 k1 (Ext.refl w1) h1
      cases d with
      | int i => rw [r.int]; exact ⟨i, rfl, k _ ρ1 w1 q2 c1 e1⟩
      | _ => exact (show False from q2).elim
  ⟨fun ρ σ w Q QQ cf h k => ⟨_, po_some pe_star, st ρ σ w Q QQ cf h k⟩, ⟨_, po_some pe_star, st⟩, fun ρ Q Q' h q => ha.mono ρ _ _ (fun x ρ1 q1 => withD.mono (fun d q2 => by cases d <;> first | exact (show False from q2).elim | exact h _ _ q2) q1) q⟩
def cutD (ds : List PD) (lo hi : Option Int) : List PD := (ds.drop (HT.sIx ds.length 0 lo)).take (HT.sIx ds.length ds.length hi - HT.sIx ds.length 0 lo)
theorem cut_dda {K : PySem.W.Frag} {G : Hp} {vs : List V} {ds : List PD} (h : DdAll K G vs ds) (lo hi : Option Int) : DdAll K G (cutV vs lo hi) (cutD ds lo hi) := by
  unfold cutV cutD
  rw [dpa_len h]
  exact dpa_take _ (dpa_drop _ h)
def slW (lo hi : Option Int) : PD → (DV → Prop) → Prop
  | .list ds, Q => Q (.fr (cutD ds lo hi))
  | .tuple ds, Q => Q (.dat (.tuple (cutD ds lo hi)))
  | .str z, Q => z.length ≤ 16000000 ∧ Q (.dat (.str (cutS z lo hi)))
  | _, _ => False
theorem slW_m {lo hi : Option Int} : M1 (slW lo hi) := by
  intro d Q Q' h q
  cases d <;> first | exact (show False from q).elim | exact h _ q | exact ⟨q.1, h _ q.2⟩
def dSl (ta : DT) (tl th : DTo) : DT := fun ρ Q => ta ρ fun x ρ1 => tl ρ1 fun l ρ2 => th ρ2 fun u ρ3 => withD (rd ρ3 x) fun d => slW l u d fun r => Q r ρ3
theorem de_sl {lo hi : Option Expr} {tl th : DTo} {p2 : Pos} (ha : DE X a ta) (hl : DO X lo tl) (hh : DO X hi th) : DE X (.Subscript a (.Slice lo hi none p2) pos) (dSl ta tl th) where
  run := fun ρ σ w Q QQ cf h k => by
    obtain ⟨to, pl, sl⟩ := hl.star
    obtain ⟨uo, pu, su⟩ := hh.star
    refine wp_of (pe_slice (slst_ok X) pe_star pl pu) (ha.run ρ σ w _ _ cf h fun x dx ρ1 w1 q1 c1 e1 k1 => sl ρ1 σ w1 _ _ c1 q1 fun l ρ2 w2 q2 c2 e2 => su ρ2 σ w2 _ _ c2 q2 fun u ρ3 w3 q3 c3 e3 => ?_)
    obtain ⟨d, h1, q4⟩ := withD.elim q3
    have r := ShRd.of c3 k1 (e2.trans e3) h1
    have e := (e1.trans e2).trans e3
    have aft : After X.K ρ3 σ w3 (fun r => Q r ρ3) QQ := fun v dv w' q c' e' k' => k v dv ρ3 w' q c' (e.trans e') (k'.pre e)
    cases d with
    | list ds =>
      obtain ⟨p, vs, rfl, hp, hd⟩ := r
      exact ⟨_, sl_list, p, vs, rfl, SqL.of hp, fun p' hp' => aft.fr c3 hp' (cut_dda hd l u) q4⟩
    | tuple ds =>
      obtain ⟨p, vs, rfl, hp, hd, hk⟩ := r.tup c3.ex
      refine ⟨_, sl_tupA, p, vs, rfl, SqT.of hp, fun hw => ?_, fun _ p' hp' => aft.tup c3 hp' (cut_dda hd l u) q4⟩
      refine aft.dat c3 (d := .tuple (cutD ds l u)) ?_ q4
      have e : cutD ds l u = ds := by
        unfold cutD
        rw [dpa_len hd] at hw
        rw [hw.1, hw.2, List.drop_zero, Nat.sub_zero, List.take_length]
      rw [e]
      exact hk
    | str z => rw [r.str]; exact ⟨_, sl_str, z, rfl, cat_line q4.1, aft.str c3 q4.2⟩
    | _ => exact (show False from q4).elim
  mono := fun ρ Q Q' h q => ha.mono ρ _ _ (fun x ρ1 q1 => hl.mono ρ1 _ _ (fun l ρ2 q2 => hh.mono ρ2 _ _ (fun u ρ3 q3 => withD.mono (fun d q4 => slW_m (fun v => h v ρ3) q4) q3) q2) q1) q
def revWL : PD → (DV → Prop) → Prop
  | .list ds, Q => Q (.fr ds.reverse)
  | _, _ => False
def revWT : PD → (DV → Prop) → Prop
  | .tuple ds, Q => Q (.dat (.tuple ds.reverse))
  | _, _ => False
theorem de_revL {k : Nat} {p1 p2 p3 : Pos} (ha : DE X a ta) : DE X (.Subscript a (.Slice none none (some (.UnaryOp .USub (.Constant (.int 1) k p1) p2)) p3) pos) (d1 revWL ta) where
  run := fun ρ σ w Q QQ cf h k => wp_of (pe_revL pe_star) (ha.run ρ σ w _ _ cf h fun x dx ρ1 w1 q1 c1 e1 k1 => by
    obtain ⟨d, h1, q3⟩ := withD.elim q1
    have r := ShRd.of c1 k1 (Ext.refl w1) h1
    have aft : After X.K ρ1 σ w1 (fun r => Q r ρ1) QQ := fun v dv w' q c' e' k' => k v dv ρ1 w' q c' (e1.trans e') (k'.pre e1)
    cases d with
    | list ds => obtain ⟨l, vs, rfl, hl, hd⟩ := r; exact ⟨l, vs, rfl, SqL.of hl, fun p hp => aft.fr c1 hp (dpa_rev hd) q3⟩
    | _ => exact (show False from q3).elim)
  mono := fun ρ Q Q' h q => ha.mono ρ _ _ (fun x ρ1 q1 => withD.mono (fun d q2 => by cases d <;> first | exact (show False from q2).elim | exact h _ _ q2) q1) q
theorem de_revT {k : Nat} {p1 p2 p3 : Pos} (ha : DE X a ta) : DE X (.Subscript a (.Slice none none (some (.UnaryOp .USub (.Constant (.int 1) k p1) p2)) p3) pos) (d1 revWT ta) where
  run := fun ρ σ w Q QQ cf h k => wp_of (pe_revT pe_star) (ha.run ρ σ w _ _ cf h fun x dx ρ1 w1 q1 c1 e1 k1 => by
    obtain ⟨d, h1, q3⟩ := withD.elim q1
    have r := ShRd.of c1 k1 (Ext.refl w1) h1
    have aft : After X.K ρ1 σ w1 (fun r => Q r ρ1) QQ := fun v dv w' q c' e' k' => k v dv ρ1 w' q c' (e1.trans e') (k'.pre e1)
    cases d with
    | tuple ds => obtain ⟨l, vs, rfl, hl, hd, _⟩ := r.tup c1.ex; exact ⟨l, vs, rfl, SqT.of hl, fun p hp => aft.tup c1 hp (dpa_rev hd) q3⟩
    | _ => exact (show False from q3).elim)
  mono := fun ρ Q Q' h q => ha.mono ρ _ _ (fun x ρ1 q1 => withD.mono (fun d q2 => by cases d <;> first | exact (show False from q2).elim | exact h _ _ q2) q1) q

/-! ### argument lists, displays -/
def aNil : DTa := fun ρ Q => Q [] ρ
def aCons (ta : DT) (tr : DTa) : DTa := fun ρ Q => ta ρ fun x ρ1 => toDat ρ1 x fun d ρ2 => tr ρ2 fun ds ρ3 => Q (d :: ds) ρ3
def aStar (ta : DT) (tr : DTa) : DTa := fun ρ Q => ta ρ fun x ρ1 => withD (rd ρ1 x) fun d => match d with
  | .list xs => tr ρ1 fun ds ρ3 => Q (xs ++ ds) ρ3
  | .tuple xs => tr ρ1 fun ds ρ3 => Q (xs ++ ds) ρ3
  | _ => False
theorem da_nil : DA X [] aNil where
  run := fun ρ σ w Q QQ cf h k => wpa_of pa_nil (k [] [] ρ w h cf (Ext.refl w) .nil)
  mono := fun _ _ _ h q => h _ _ q
variable {tr : DTa}
theorem da_cons (ha : DE X a ta) (hr : DA X es tr) (hs : starEach (a :: es) X.env = (false, eval a X.env) :: starEach es X.env := by rfl) : DA X (a :: es) (aCons ta tr) where
  run := fun ρ σ w Q QQ cf h k => wpa_of (pa_cons pe_star pa_star0 hs) (ha.run ρ σ w _ _ cf h fun x dx ρ1 w1 q1 c1 e1 k1 => by
    obtain ⟨d, ρ2, w2, q2, c2, e2, hd, eH⟩ := toDat.run c1 e1 k1 q1
    rw [← eH]
    exact hr.run ρ2 σ w2 _ _ c2 q2 fun vs ds ρ3 w3 q3 c3 e3 hv => k _ _ ρ3 w3 q3 c3 (e2.trans e3) (.cons (dp_mono e3.gg _ _ hd) hv))
  mono := fun ρ Q Q' h q => ha.mono ρ _ _ (fun x ρ1 q1 => toDat.mono (fun d ρ2 q2 => hr.mono ρ2 _ _ (fun ds ρ3 => h _ _) q2) q1) q
theorem da_star {p : Pos} (ha : DE X a ta) (hr : DA X es tr) (hs : starEach (.Starred a p :: es) X.env = (true, eval a X.env) :: starEach es X.env := by rfl) : DA X (.Starred a p :: es) (aStar ta tr) where
  run := fun ρ σ w Q QQ cf h k => wpa_of (StX.pa_star pe_star pa_star0 hs) (ha.run ρ σ w _ _ cf h fun x dx ρ1 w1 q1 c1 e1 k1 => by
    obtain ⟨d, h1, q3⟩ := withD.elim q1
    have r := ShRd.of c1 k1 (Ext.refl w1) h1
    cases d with
    | list xs =>
      obtain ⟨l, vs, rfl, hl, hd⟩ := r
      exact ⟨l, vs, rfl, .inr (SqL.of hl), hr.run ρ1 σ w1 _ _ c1 q3 fun us ds ρ3 w3 q4 c3 e3 hv => k _ _ ρ3 w3 q4 c3 (e1.trans e3) (dpa_app (dpa_mono e3.gg _ _ hd) hv)⟩
    | tuple xs =>
      obtain ⟨l, vs, rfl, hl, hd, _⟩ := r.tup c1.ex
      exact ⟨l, vs, rfl, .inl (SqT.of hl), hr.run ρ1 σ w1 _ _ c1 q3 fun us ds ρ3 w3 q4 c3 e3 hv => k _ _ ρ3 w3 q4 c3 (e1.trans e3) (dpa_app (dpa_mono e3.gg _ _ hd) hv)⟩
    | _ => exact (show False from q3).elim)
  mono := fun ρ Q Q' h q => ha.mono ρ _ _ (fun x ρ1 q1 => withD.mono (fun d q2 => by
    cases d <;> first | exact (show False from q2).elim | exact hr.mono ρ1 _ _ (fun ds ρ3 => h _ _) q2) q1) q
def dLst (tr : DTa) : DT := fun ρ Q => tr ρ fun ds ρ1 => ds.length ≤ 16000000 ∧ Q (.fr ds) ρ1
def dTup (tr : DTa) : DT := fun ρ Q => tr ρ fun ds ρ1 => ds.length ≤ 16000000 ∧ Q (.dat (.tuple ds)) ρ1
theorem de_lst (hr : DA X es tr) : DE X (.List es pos) (dLst tr) where
  run := fun ρ σ w Q QQ cf h k => wp_of (pe_lst pa_star0) (hr.run ρ σ w _ _ cf h fun vs ds ρ1 w1 q1 c1 e1 hv => ⟨by rw [dpa_len hv]; exact cat_line q1.1, fun p hp =>
    (show After X.K ρ1 σ w1 (fun r => Q r ρ1) QQ from fun v dv w' q c' e' k' => k v dv ρ1 w' q c' (e1.trans e') (k'.pre e1)).fr c1 hp hv q1.2⟩)
  mono := fun ρ Q Q' h q => hr.mono ρ _ _ (fun ds ρ1 q1 => ⟨q1.1, h _ _ q1.2⟩) q
theorem de_tup {x1} (hr : DA X es tr) : DE X (.Tuple es x1 pos) (dTup tr) where
  run := fun ρ σ w Q QQ cf h k => wp_of (pe_tup pa_star0) (hr.run ρ σ w _ _ cf h fun vs ds ρ1 w1 q1 c1 e1 hv => ⟨by rw [dpa_len hv]; exact cat_line q1.1, fun p hp =>
    (show After X.K ρ1 σ w1 (fun r => Q r ρ1) QQ from fun v dv w' q c' e' k' => k v dv ρ1 w' q c' (e1.trans e') (k'.pre e1)).tup c1 hp hv q1.2⟩)
  mono := fun ρ Q Q' h q => hr.mono ρ _ _ (fun ds ρ1 q1 => ⟨q1.1, h _ _ q1.2⟩) q

/-! ### calls of built-ins -/
variable {x : Str} {p : Pos} {bid T : String}
theorem de_callB {W : PD → (DV → Prop) → Prop} (hc : Ca1 X (.builtin bid) W) (hW : M1 W) (hm : X.mg x = none) (hv : bootBuiltins x = some (.builtin bid)) (ha : DE X a ta) (hg : Gl X x := by rfl) (hn : x ≠ "__name__" := by decide) (hdb : (x == ("__debug__" : Str)) = false := by decide)
    (he : starEach (a :: []) X.env = (false, eval a X.env) :: starEach [] X.env := by rfl) : DE X (.Call (.Name x p) [a] [] pos) (d1 W ta) where
  run := fun ρ σ w Q QQ cf h k => wp_of (pe_callB (cast_ok X _) hg hm hv (pa_cons pe_star pa_nil he) hn hdb he rfl) (ha.run ρ σ w _ _ cf h fun x dx ρ1 w1 q1 c1 e1 k1 => by
    obtain ⟨d, h1, q3⟩ := withD.elim q1
    exact hc c1 (ShRd.of c1 k1 (Ext.refl w1) h1) q3 fun v dv w' q c' e' k' => k v dv ρ1 w' q c' (e1.trans e') (k'.pre e1))
  mono := fun ρ Q Q' h q => ha.mono ρ _ _ (fun x ρ1 q1 => withD.mono (fun d q2 => hW (fun v => h v ρ1) q2) q1) q
theorem de_callTy {W : PD → (DV → Prop) → Prop} (hc : Ca1 X (.type T) W) (hW : M1 W) (hm : X.mg x = none) (hv : bootBuiltins x = some (.type T)) (ha : DE X a ta) (hg : Gl X x := by rfl) (hn : x ≠ "__name__" := by decide) (hdb : (x == ("__debug__" : Str)) = false := by decide)
    (he : starEach (a :: []) X.env = (false, eval a X.env) :: starEach [] X.env := by rfl) : DE X (.Call (.Name x p) [a] [] pos) (d1 W ta) where
  run := fun ρ σ w Q QQ cf h k => wp_of (pe_callTy (cast_ok X _) hg hm hv (pa_cons pe_star pa_nil he) hn hdb he rfl) (ha.run ρ σ w _ _ cf h fun x dx ρ1 w1 q1 c1 e1 k1 => by
    obtain ⟨d, h1, q3⟩ := withD.elim q1
    exact hc c1 (ShRd.of c1 k1 (Ext.refl w1) h1) q3 fun v dv w' q c' e' k' => k v dv ρ1 w' q c' (e1.trans e') (k'.pre e1))
  mono := fun ρ Q Q' h q => ha.mono ρ _ _ (fun x ρ1 q1 => withD.mono (fun d q2 => hW (fun v => h v ρ1) q2) q1) q
def dN (W : List PD → (DV → Prop) → Prop) (tr : DTa) : DT := fun ρ Q => tr ρ fun ds ρ1 => W ds fun r => Q r ρ1
abbrev MN (W : List PD → (DV → Prop) → Prop) : Prop := ∀ {ds : List PD} {Q Q' : DV → Prop}, (∀ v, Q v → Q' v) → W ds Q → W ds Q'
theorem de_callBN {W : List PD → (DV → Prop) → Prop} (hc : CaN X (.builtin bid) W) (hW : MN W) (hm : X.mg x = none) (hv : bootBuiltins x = some (.builtin bid)) (hr : DA X (a :: es) tr) (hg : Gl X x := by rfl) (hn : x ≠ "__name__" := by decide) (hdb : (x == ("__debug__" : Str)) = false := by decide)
    (he : starEach (a :: es) X.env = (false, eval a X.env) :: starEach es X.env := by rfl) (hpl : (backTo pos (starEach es X.env)).any (·.1) = false := by rfl) : DE X (.Call (.Name x p) (a :: es) [] pos) (dN W tr) where
  run := fun ρ σ w Q QQ cf h k => wp_of (pe_callB (cast_ok X _) hg hm hv pa_star0 hn hdb he hpl) (hr.run ρ σ w _ _ cf h fun vs ds ρ1 w1 q1 c1 e1 hv =>
    hc c1 hv q1 fun v dv w' q c' e' k' => k v dv ρ1 w' q c' (e1.trans e') (k'.pre e1))
  mono := fun ρ Q Q' h q => hr.mono ρ _ _ (fun ds ρ1 q1 => hW (fun v => h v ρ1) q1) q

/-! ### len, abs, int, list, tuple, sum, any, all, max, min, sorted -/
def lenW : PD → (DV → Prop) → Prop
  | .list ds, Q => Q (.dat (.int ds.length))
  | .tuple ds, Q => Q (.dat (.int ds.length))
  | .str z, Q => z.length ≤ 16000000 ∧ Q (.dat (.int z.length))
  | _, _ => False
theorem lenW_m : M1 lenW := by
  intro d Q Q' h q
  cases d <;> first | exact (show False from q).elim | exact h _ q | exact ⟨q.1, h _ q.2⟩
theorem len_ok : Ca1 X (.builtin "len") lenW := by
  intro ρ σ w x d Q QQ c r h k
  cases d with
  | list ds => obtain ⟨l, vs, rfl, hl, hd⟩ := r; exact ⟨_, call_len_seq, l, vs, rfl, .inl (SqL.of hl), by rw [dpa_len hd]; exact k.int c h⟩
  | tuple ds => obtain ⟨l, vs, rfl, hl, hd, _⟩ := r.tup c.ex; exact ⟨_, call_len_seq, l, vs, rfl, .inr (SqT.of hl), by rw [dpa_len hd]; exact k.int c h⟩
  | str z => rw [r.str]; exact ⟨_, call_len_str, z, rfl, cat_line h.1, k.int c h.2⟩
  | _ => exact (show False from h).elim
def absW : PD → (DV → Prop) → Prop
  | .int i, Q => Q (.dat (.int (if i < 0 then -i else i)))
  | _, _ => False
theorem absW_m : M1 absW := by
  intro d Q Q' h q
  cases d <;> first | exact (show False from q).elim | exact h _ q
theorem abs_ok : Ca1 X (.builtin "abs") absW := by
  intro ρ σ w x d Q QQ c r h k
  cases d with
  | int i => rw [r.int]; exact ⟨_, call_abs, i, rfl, k.int c h⟩
  | _ => exact (show False from h).elim
def intW : PD → (DV → Prop) → Prop
  | .int i, Q => Q (.dat (.int i))
  | .bool b, Q => Q (.dat (.int (if b then 1 else 0)))
  | _, _ => False
theorem intW_m : M1 intW := by
  intro d Q Q' h q
  cases d <;> first | exact (show False from q).elim | exact h _ q
theorem int_ok : Ca1 X (.type "int") intW := by
  intro ρ σ w x d Q QQ c r h k
  cases d with
  | int i => rw [r.int]; exact ⟨_, call_int1, .inl ⟨i, rfl, k.int c h⟩⟩
  | bool b => rw [r.bl]; exact ⟨_, call_int1, .inr ⟨b, rfl, k.int c h⟩⟩
  | _ => exact (show False from h).elim
def listW : PD → (DV → Prop) → Prop
  | .list ds, Q => Q (.fr ds)
  | .tuple ds, Q => Q (.fr ds)
  | _, _ => False
theorem listW_m : M1 listW := by
  intro d Q Q' h q
  cases d <;> first | exact (show False from q).elim | exact h _ q
theorem list_ok : Ca1 X (.type "list") listW := by
  intro ρ σ w x d Q QQ c r h k
  cases d with
  | list ds => obtain ⟨l, vs, rfl, hl, hd⟩ := r; exact ⟨_, call_list_of, l, vs, rfl, .inl (SqL.of hl), fun p hp => k.fr c hp hd h⟩
  | tuple ds => obtain ⟨l, vs, rfl, hl, hd, _⟩ := r.tup c.ex; exact ⟨_, call_list_of, l, vs, rfl, .inr (SqT.of hl), fun p hp => k.fr c hp hd h⟩
  | _ => exact (show False from h).elim
def tupleW : PD → (DV → Prop) → Prop
  | .list ds, Q => Q (.dat (.tuple ds))
  | .tuple ds, Q => Q (.dat (.tuple ds))
  | _, _ => False
theorem tupleW_m : M1 tupleW := by
  intro d Q Q' h q
  cases d <;> first | exact (show False from q).elim | exact h _ q
theorem tuple_ok : Ca1 X (.type "tuple") tupleW := by
  intro ρ σ w x d Q QQ c r h k
  cases d with
  | list ds => obtain ⟨l, vs, rfl, hl, hd⟩ := r; exact ⟨_, call_tuple_of, l, vs, rfl, .inl ⟨SqL.of hl, fun p hp => k.tup c hp hd h⟩⟩
  | tuple ds => obtain ⟨l, vs, rfl, hl, hd, hk⟩ := r.tup c.ex; exact ⟨_, call_tuple_of, l, vs, rfl, .inr ⟨SqT.of hl, k.dat c hk h⟩⟩
  | _ => exact (show False from h).elim
/-- the items of a list, a tuple -/
def itemsOf : PD → Option (List PD)
  | .list ds => some ds
  | .tuple ds => some ds
  | _ => none
def anyW (d : PD) (Q : DV → Prop) : Prop := ∃ bs : List Bool, d = .list (bs.map PyData.bool) ∧ Q (.dat (.bool (bs.any fun b => b)))
def allW (d : PD) (Q : DV → Prop) : Prop := ∃ bs : List Bool, d = .list (bs.map PyData.bool) ∧ Q (.dat (.bool (bs.all fun b => b)))
theorem anyW_m : M1 anyW := fun h ⟨bs, e, q⟩ => ⟨bs, e, h _ q⟩
theorem allW_m : M1 allW := fun h ⟨bs, e, q⟩ => ⟨bs, e, h _ q⟩
theorem any_ok (hc : X.calm = true) : Ca1 X (.builtin "any") anyW := by
  rintro ρ σ w x d Q QQ c r ⟨bs, rfl, h⟩ k
  obtain ⟨l, vs, rfl, hl, hd⟩ := r
  rw [dpa_bools hd] at hl
  exact ⟨_, cr_any hc, l, bs, rfl, SqL.of hl, k.bl c h⟩
theorem all_ok (hc : X.calm = true) : Ca1 X (.builtin "all") allW := by
  rintro ρ σ w x d Q QQ c r ⟨bs, rfl, h⟩ k
  obtain ⟨l, vs, rfl, hl, hd⟩ := r
  rw [dpa_bools hd] at hl
  exact ⟨_, cr_all hc, l, bs, rfl, SqL.of hl, k.bl c h⟩
def sumW (d : PD) (Q : DV → Prop) : Prop := ∃ ns : List Int, itemsOf d = some (ns.map PyData.int) ∧ Q (.dat (.int ns.sum))
theorem sumW_m : M1 sumW := fun h ⟨bs, e, q⟩ => ⟨bs, e, h _ q⟩
theorem isum_raw {prog : Program} {w : World} {A : Around} {E : Value → Shared → Prop} {s : Shared} {l : Addr} {its : List Value} {ns : List Int} {Q : Value → Shared → Prop} (hh : A.handled = none) (hl : s.heap.IsTuple l its.toArray) (hi : IntsAre its ns)
    (h : ∀ h' tk t', (∀ b o, s.heap.get? b = some o → h'.get? b = some o) → Q (.int ns.sum t') { s with heap := h', toks := tk }) : wpAny (model prog w) A (call (.builtin "sum") [.ref l]) Q E s := by
  obtain ⟨xs, e⟩ := hi.allInts.items
  have hn : numsOf (intItems xs).toList = ns := by rw [← e]; exact hi.numsOf
  rw [nums_intItems] at hn
  rw [e] at hl
  refine PySem.W.ktm_sumG hh hl fun h' tk t' hk => ?_
  have := h h' tk t' hk
  rw [preSum_eq, List.take_of_length_le (by simp), hn]; exact this
def rSumT (K : PySem.W.Frag) : List V → Hp → VK → Prop := fun vs H Q => ∃ (a : Addr) (ns : List Int), vs = [V.ref a] ∧ SqT K H a (ns.map V.int) ∧ Q (.int ns.sum) H
theorem cr_sumT (hc : X.calm = true) : CallR X (.builtin "sum") (rSumT X.K) := by
  intro pins s σ H vs us Q I r h
  obtain ⟨a, ns, rfl, hs, q⟩ := h
  obtain ⟨its, rv, hl, _⟩ := I.tuple hs
  rw [Vals.ref1 r]
  exact isum_raw (I.ok.hd hc) hl (intsAre_of rv) fun h' tk t' hk => ⟨.int _, H, I.kept hk, ⟨_, rfl⟩, q⟩
theorem sum_ok (hc : X.calm = true) : Ca1 X (.builtin "sum") sumW := by
  rintro ρ σ w x d Q QQ c r ⟨ns, e, h⟩ k
  cases d with
  | list ds =>
    cases e
    obtain ⟨l, vs, rfl, hl, hd⟩ := r
    rw [dpa_ints hd] at hl
    exact ⟨_, cr_sum hc, l, ns, rfl, SqL.of hl, k.int c h⟩
  | tuple ds =>
    cases e
    obtain ⟨l, vs, rfl, hl, hd, _⟩ := r.tup c.ex
    rw [dpa_ints hd] at hl
    exact ⟨_, cr_sumT hc, l, ns, rfl, SqT.of hl, k.int c h⟩
  | _ => cases e
end
end Cu

set_option Elab.async false
set_option linter.all false
set_option maxRecDepth 100000
set_option maxHeartbeats 4000000
namespace Cu
open PySem PySem.Spec PyProof.Rows L2

section
variable {X : Cx} {a b c e f : Expr} {es : List Expr} {ta tb tc te : DT} {tr : DTa} {pos p : Pos} {x : Str}
/-! ### isinstance -/
def tyName : PD → String
  | .none => "NoneType"
  | .bool _ => "bool"
  | .int _ => "int"
  | .str _ => "str"
  | .list _ => "list"
  | .tuple _ => "tuple"
  | .dict _ => "dict"
def isInt : PD → Bool
  | .int _ => true
  | .bool _ => true
  | _ => false
def isBool : PD → Bool
  | .bool _ => true
  | _ => false
def isStr : PD → Bool
  | .str _ => true
  | _ => false
def isList : PD → Bool
  | .list _ => true
  | _ => false
def isTuple : PD → Bool
  | .tuple _ => true
  | _ => false
def KitT (T : String) (g : PD → Bool) : Prop := ∀ d : PD, kitB (tyName d) T = some (g d)
theorem kit_mk {T : String} {g : PD → Bool} {b0 b1 b2 b3 b4 b5 b6 : Bool} (h0 : kitB "NoneType" T = some b0) (h1 : kitB "bool" T = some b1) (h2 : kitB "int" T = some b2) (h3 : kitB "str" T = some b3) (h4 : kitB "list" T = some b4) (h5 : kitB "tuple" T = some b5) (h6 : kitB "dict" T = some b6)
    (g0 : g .none = b0) (g1 : ∀ b, g (.bool b) = b1) (g2 : ∀ b, g (.int b) = b2) (g3 : ∀ b, g (.str b) = b3) (g4 : ∀ b, g (.list b) = b4) (g5 : ∀ b, g (.tuple b) = b5) (g6 : ∀ b, g (.dict b) = b6) : KitT T g := fun d => by
  cases d with
  | none => rw [g0]; exact h0
  | bool b => rw [g1]; exact h1
  | int b => rw [g2]; exact h2
  | str b => rw [g3]; exact h3
  | list b => rw [g4]; exact h4
  | tuple b => rw [g5]; exact h5
  | dict b => rw [g6]; exact h6
theorem kit_int : KitT "int" isInt := kit_mk (by decide +kernel) (by decide +kernel) (by decide +kernel) (by decide +kernel) (by decide +kernel) (by decide +kernel) (by decide +kernel) rfl (fun _ => rfl) (fun _ => rfl) (fun _ => rfl) (fun _ => rfl) (fun _ => rfl) (fun _ => rfl)
theorem kit_bool : KitT "bool" isBool := kit_mk (by decide +kernel) (by decide +kernel) (by decide +kernel) (by decide +kernel) (by decide +kernel) (by decide +kernel) (by decide +kernel) rfl (fun _ => rfl) (fun _ => rfl) (fun _ => rfl) (fun _ => rfl) (fun _ => rfl) (fun _ => rfl)
theorem kit_str : KitT "str" isStr := kit_mk (by decide +kernel) (by decide +kernel) (by decide +kernel) (by decide +kernel) (by decide +kernel) (by decide +kernel) (by decide +kernel) rfl (fun _ => rfl) (fun _ => rfl) (fun _ => rfl) (fun _ => rfl) (fun _ => rfl) (fun _ => rfl)
theorem kit_list : KitT "list" isList := kit_mk (by decide +kernel) (by decide +kernel) (by decide +kernel) (by decide +kernel) (by decide +kernel) (by decide +kernel) (by decide +kernel) rfl (fun _ => rfl) (fun _ => rfl) (fun _ => rfl) (fun _ => rfl) (fun _ => rfl) (fun _ => rfl)
theorem kit_tuple : KitT "tuple" isTuple := kit_mk (by decide +kernel) (by decide +kernel) (by decide +kernel) (by decide +kernel) (by decide +kernel) (by decide +kernel) (by decide +kernel) rfl (fun _ => rfl) (fun _ => rfl) (fun _ => rfl) (fun _ => rfl) (fun _ => rfl) (fun _ => rfl)
theorem tyx_of {K : PySem.W.Frag} {H : Hp} {v : V} {d : PD} (h : Dd K H v d) : TyX K H v (.type (tyName d)) := by
  cases h with
  | non => exact .base .non
  | bl b => exact .base (.bl b)
  | int i => exact .base (.int i)
  | str z => exact .base (.str z)
  | lst h _ => exact .base (.lst h)
  | tup h _ => exact .base (.tup h)
def isiW (g : PD → Bool) (d : PD) (Q : DV → Prop) : Prop := Q (.dat (.bool (g d)))
def dIsi (g : PD → Bool) (ta : DT) : DT := d1 (isiW g) ta
theorem de_isi {T : String} {g : PD → Bool} {tx : Str} {tp : Pos} (kt : KitT T g) (hi : X.mg "isinstance" = none) (hm : X.mg tx = none) (hv : bootBuiltins tx = some (.type T)) (ha : DE X a ta) (hgi : Gl X "isinstance" := by rfl) (hg : Gl X tx := by rfl) (hn : tx ≠ "__name__" := by decide) (hdb : (tx == ("__debug__" : Str)) = false := by decide)
    (he : starEach (a :: [.Name tx tp]) X.env = (false, eval a X.env) :: starEach [.Name tx tp] X.env := by rfl) : DE X (.Call (.Name "isinstance" p) [a, .Name tx tp] [] pos) (dIsi g ta) where
  run := fun ρ σ w Q QQ cf h k => wp_of (pe_callB (id := "isinstance") call_isi hgi hi (by decide +kernel) (pa_cons pe_star (pa_cons (pe_bltn (v := .ty T) hg hm hv rfl hn hdb) pa_nil) he) (by decide) (by decide) he rfl) (ha.run ρ σ w _ _ cf h fun x dx ρ1 w1 q1 c1 e1 k1 => by
    obtain ⟨d, h1, q3⟩ := withD.elim q1
    have r := ShRd.of c1 k1 (Ext.refl w1) h1
    exact ⟨x, .ty T, _, _, _, rfl, .ty T, tyx_of (r.dpH c1.ex), kit_ty (kt d), k _ _ ρ1 w1 q3 c1 e1 (.bl _)⟩)
  mono := fun ρ Q Q' h q => ha.mono ρ _ _ (fun x ρ1 q1 => withD.mono (fun d q2 => h _ _ q2) q1) q
def isi2W (g g' : PD → Bool) (d : PD) (Q : DV → Prop) : Prop := Q (.dat (.bool (g d || g' d)))
def dIsi2 (g g' : PD → Bool) (ta : DT) : DT := d1 (isi2W g g') ta
theorem de_isi2 {T U : String} {g g' : PD → Bool} {tx ux : Str} {tp up : Pos} {k0 : _} {pt : Pos} (kt : KitT T g) (ku : KitT U g') (hi : X.mg "isinstance" = none) (hm : X.mg tx = none) (hv : bootBuiltins tx = some (.type T)) (hm2 : X.mg ux = none) (hv2 : bootBuiltins ux = some (.type U)) (ha : DE X a ta)
    (hgi : Gl X "isinstance" := by rfl) (hg : Gl X tx := by rfl) (hn : tx ≠ "__name__" := by decide) (hdb : (tx == ("__debug__" : Str)) = false := by decide) (hg2 : Gl X ux := by rfl) (hn2 : ux ≠ "__name__" := by decide) (hdb2 : (ux == ("__debug__" : Str)) = false := by decide)
    (he : starEach (a :: [.Tuple [.Name tx tp, .Name ux up] k0 pt]) X.env = (false, eval a X.env) :: starEach [.Tuple [.Name tx tp, .Name ux up] k0 pt] X.env := by rfl) : DE X (.Call (.Name "isinstance" p) [a, .Tuple [.Name tx tp, .Name ux up] k0 pt] [] pos) (dIsi2 g g' ta) where
  run := fun ρ σ w Q QQ cf h k => wp_of (pe_callB (id := "isinstance") call_isiT hgi hi (by decide +kernel) (pa_cons pe_star (pa_cons (pe_tup (pa_cons (pe_bltn (v := .ty T) hg hm hv rfl hn hdb) (pa_cons (pe_bltn (v := .ty U) hg2 hm2 hv2 rfl hn2 hdb2) pa_nil))) pa_nil) he) (by decide) (by decide) he rfl) (ha.run ρ σ w _ _ cf h fun x dx ρ1 w1 q1 c1 e1 k1 => by
    obtain ⟨d, h1, q3⟩ := withD.elim q1
    have r := ShRd.of c1 k1 (Ext.refl w1) h1
    refine ⟨by show (2 : Nat) ≤ sizeLine; decide, fun t ht => ?_⟩
    refine ⟨x, t, [.ty T, .ty U], .type (tyName d), [.type T, .type U], g d || g' d, rfl, upd_same, .cons (.ty T) (.cons (.ty U) .nil), tyx_of (dp_mono (Ex.new ht) _ _ (r.dpH c1.ex)), ?_, ?_⟩
    · refine kitAny_cons (kit_ty (kt d)) (fun hb => ?_) fun hb => by rw [hb]; rfl
      refine kitAny_cons (kit_ty (ku d)) (fun hc => ?_) fun hc => by rw [hc, Bool.or_true]
      rw [hb, hc]; rfl
    · exact k _ _ ρ1 ⟨w1.G, upd w1.H t (.tup [.ty T, .ty U]), w1.F⟩ q3 (c1.new ht) (e1.trans (Ext.new ht)) (.bl _))
  mono := fun ρ Q Q' h q => ha.mono ρ _ _ (fun x ρ1 q1 => withD.mono (fun d q2 => h _ _ q2) q1) q

/-! ### min, max -/
def minW (d : PD) (Q : DV → Prop) : Prop := ∃ (n : Int) (ns : List Int), itemsOf d = some ((n :: ns).map PyData.int) ∧ Q (.dat (.int (ns.foldl min n)))
def maxW (d : PD) (Q : DV → Prop) : Prop := ∃ (n : Int) (ns : List Int), itemsOf d = some ((n :: ns).map PyData.int) ∧ Q (.dat (.int (ns.foldl max n)))
theorem minW_m : M1 minW := fun h ⟨n, ns, e, q⟩ => ⟨n, ns, e, h _ q⟩
theorem maxW_m : M1 maxW := fun h ⟨n, ns, e, q⟩ => ⟨n, ns, e, h _ q⟩
theorem foldl_min_le : ∀ (ns : List Int) (n : Int), ns.foldl min n ≤ n ∧ ∀ y, y ∈ ns → ns.foldl min n ≤ y
  | [], n => ⟨Int.le_refl _, fun _ h => nomatch h⟩
  | m :: ns, n => by
    obtain ⟨h1, h2⟩ := foldl_min_le ns (min n m)
    rw [List.foldl_cons]
    refine ⟨Int.le_trans h1 (Int.min_le_left _ _), fun y hy => ?_⟩
    rcases List.mem_cons.mp hy with rfl | hy
    · exact Int.le_trans h1 (Int.min_le_right _ _)
    · exact h2 y hy
theorem foldl_max_le : ∀ (ns : List Int) (n : Int), n ≤ ns.foldl max n ∧ ∀ y, y ∈ ns → y ≤ ns.foldl max n
  | [], n => ⟨Int.le_refl _, fun _ h => nomatch h⟩
  | m :: ns, n => by
    obtain ⟨h1, h2⟩ := foldl_max_le ns (max n m)
    rw [List.foldl_cons]
    refine ⟨Int.le_trans (Int.le_max_left _ _) h1, fun y hy => ?_⟩
    rcases List.mem_cons.mp hy with rfl | hy
    · exact Int.le_trans (Int.le_max_right _ _) h1
    · exact h2 y hy
theorem foldl_min_mem : ∀ (ns : List Int) (n : Int), ns.foldl min n ∈ n :: ns
  | [], n => List.mem_cons_self
  | m :: ns, n => by
    rw [List.foldl_cons]
    have h := foldl_min_mem ns (min n m)
    rcases List.mem_cons.mp h with h | h
    · rw [h]
      rcases Int.le_total n m with z | z
      · rw [Int.min_eq_left z]; exact List.mem_cons_self
      · rw [Int.min_eq_right z]; exact List.mem_cons_of_mem _ List.mem_cons_self
    · exact List.mem_cons_of_mem _ (List.mem_cons_of_mem _ h)
theorem foldl_max_mem : ∀ (ns : List Int) (n : Int), ns.foldl max n ∈ n :: ns
  | [], n => List.mem_cons_self
  | m :: ns, n => by
    rw [List.foldl_cons]
    have h := foldl_max_mem ns (max n m)
    rcases List.mem_cons.mp h with h | h
    · rw [h]
      rcases Int.le_total n m with z | z
      · rw [Int.max_eq_right z]; exact List.mem_cons_of_mem _ List.mem_cons_self
      · rw [Int.max_eq_left z]; exact List.mem_cons_self
    · exact List.mem_cons_of_mem _ (List.mem_cons_of_mem _ h)
theorem min_is {n m : Int} {ns : List Int} (h1 : m ∈ n :: ns) (h2 : ∀ y, y ∈ n :: ns → m ≤ y) : m = ns.foldl min n := by
  refine Int.le_antisymm (h2 _ (foldl_min_mem ns n)) ?_
  rcases List.mem_cons.mp h1 with rfl | h
  · exact (foldl_min_le ns m).1
  · exact (foldl_min_le ns n).2 m h
theorem max_is {n m : Int} {ns : List Int} (h1 : m ∈ n :: ns) (h2 : ∀ y, y ∈ n :: ns → y ≤ m) : m = ns.foldl max n := by
  refine Int.le_antisymm ?_ (h2 _ (foldl_max_mem ns n))
  rcases List.mem_cons.mp h1 with rfl | h
  · exact (foldl_max_le ns m).1
  · exact (foldl_max_le ns n).2 m h
theorem alikeInts (ns : List Int) : PySem.W.AlikeAll (ns.map PyData.int) := PySem.W.alikeAll_datum ns
theorem depthInts : ∀ ns : List Int, PyData.depthAll (ns.map PyData.int) = 0
  | [] => rfl
  | n :: ns => by
    rw [List.map_cons, PyData.depthAll, depthInts ns]
    rfl
theorem reads_ints {h : Heap} {ns : List Int} : ∀ {us : List Value}, Vals (ns.map V.int) us → ∃ as, ReadsAll h us (ns.map PyData.int) as := by
  induction ns with
  | nil => intro us r; rw [List.map_nil] at r; cases r; exact ⟨_, .nil⟩
  | cons n ns ih =>
    intro us r
    rw [List.map_cons] at r
    cases r with
    | cons r1 r2 =>
      obtain ⟨t, rfl⟩ := r1
      obtain ⟨as, h2⟩ := ih r2
      exact ⟨_, .cons (Reads.int n t) h2⟩
def rMinT (K : PySem.W.Frag) : List V → Hp → VK → Prop := fun vs H Q => ∃ (a : Addr) (n : Int) (ns : List Int), vs = [V.ref a] ∧ SqT K H a ((n :: ns).map V.int) ∧ Q (.int (ns.foldl min n)) H
def rMaxT (K : PySem.W.Frag) : List V → Hp → VK → Prop := fun vs H Q => ∃ (a : Addr) (n : Int) (ns : List Int), vs = [V.ref a] ∧ SqT K H a ((n :: ns).map V.int) ∧ Q (.int (ns.foldl max n)) H
theorem cr_minT (hc : X.calm = true) (hu : X.A.units + 65 < cLine) : CallR X (.builtin "min") (rMinT X.K) := by
  intro pins s σ H vs us Q I r h
  obtain ⟨a, n, ns, rfl, hs, q⟩ := h
  obtain ⟨its, rv, hl, _⟩ := I.tuple hs
  rw [Vals.ref1 r]
  obtain ⟨as, hr⟩ := reads_ints (h := s.heap) rv
  refine PySem.W.min_tuple_data (x := .int n) (xs := ns.map PyData.int) (I.ok.hd hc) hl (by rw [← List.map_cons]; exact hr) (by rw [← List.map_cons]; exact alikeInts _) (by rw [← List.map_cons, depthInts]; omega) fun i v h' tk bs hv hd hk => ?_
  rw [PySem.W.minD_ints] at hd
  cases hd with
  | int _ t => exact ⟨.int _, H, I.kept hk, ⟨_, rfl⟩, q⟩
theorem cr_maxT (hc : X.calm = true) (hu : X.A.units + 65 < cLine) : CallR X (.builtin "max") (rMaxT X.K) := by
  intro pins s σ H vs us Q I r h
  obtain ⟨a, n, ns, rfl, hs, q⟩ := h
  obtain ⟨its, rv, hl, _⟩ := I.tuple hs
  rw [Vals.ref1 r]
  obtain ⟨as, hr⟩ := reads_ints (h := s.heap) rv
  refine PySem.W.max_tuple_data (x := .int n) (xs := ns.map PyData.int) (I.ok.hd hc) hl (by rw [← List.map_cons]; exact hr) (by rw [← List.map_cons]; exact alikeInts _) (by rw [← List.map_cons, depthInts]; omega) fun i v h' tk bs hv hd hk => ?_
  rw [PySem.W.maxD_ints] at hd
  cases hd with
  | int _ t => exact ⟨.int _, H, I.kept hk, ⟨_, rfl⟩, q⟩
theorem min_ok (hc : X.calm = true) (hu : X.A.units + 65 < cLine) : Ca1 X (.builtin "min") minW := by
  rintro ρ σ w x d Q QQ c r ⟨n, ns, e, h⟩ k
  cases d with
  | list ds =>
    cases e
    obtain ⟨l, vs, rfl, hl, hd⟩ := r
    rw [dpa_ints hd] at hl
    exact ⟨_, cr_min hc, l, n :: ns, rfl, SqL.of hl, Nat.succ_pos _, fun m h1 h2 => by rw [min_is h1 h2]; exact k.int c h⟩
  | tuple ds =>
    cases e
    obtain ⟨l, vs, rfl, hl, hd, _⟩ := r.tup c.ex
    rw [dpa_ints hd] at hl
    exact ⟨_, cr_minT hc hu, l, n, ns, rfl, SqT.of hl, k.int c h⟩
  | _ => cases e
theorem max_ok (hc : X.calm = true) (hu : X.A.units + 65 < cLine) : Ca1 X (.builtin "max") maxW := by
  rintro ρ σ w x d Q QQ c r ⟨n, ns, e, h⟩ k
  cases d with
  | list ds =>
    cases e
    obtain ⟨l, vs, rfl, hl, hd⟩ := r
    rw [dpa_ints hd] at hl
    exact ⟨_, cr_max hc, l, n :: ns, rfl, SqL.of hl, Nat.succ_pos _, fun m h1 h2 => by rw [max_is h1 h2]; exact k.int c h⟩
  | tuple ds =>
    cases e
    obtain ⟨l, vs, rfl, hl, hd, _⟩ := r.tup c.ex
    rw [dpa_ints hd] at hl
    exact ⟨_, cr_maxT hc hu, l, n, ns, rfl, SqT.of hl, k.int c h⟩
  | _ => cases e
/-- of two ints -/
def min2W : List PD → (DV → Prop) → Prop
  | [.int i, .int j], Q => Q (.dat (.int (if j < i then j else i)))
  | _, _ => False
def max2W : List PD → (DV → Prop) → Prop
  | [.int i, .int j], Q => Q (.dat (.int (if j > i then j else i)))
  | _, _ => False
theorem two_i {ds : List PD} {P : Int → Int → Prop} {W : List PD → Prop} (h : W ds) (h1 : ∀ i j, W [.int i, .int j] → P i j) (h0 : ∀ ds, (∀ i j, ds ≠ [.int i, .int j]) → ¬ W ds) : ∃ i j, ds = [.int i, .int j] ∧ P i j := by
  by_cases z : ∃ i j, ds = [.int i, .int j]
  · obtain ⟨i, j, rfl⟩ := z
    exact ⟨i, j, rfl, h1 i j h⟩
  · exact absurd h (h0 ds fun i j e => z ⟨i, j, e⟩)
theorem min2_i {ds : List PD} {Q : DV → Prop} (h : min2W ds Q) : ∃ i j, ds = [.int i, .int j] ∧ Q (.dat (.int (if j < i then j else i))) := by
  unfold min2W at h
  split at h
  · exact ⟨_, _, rfl, h⟩
  · exact h.elim
theorem max2_i {ds : List PD} {Q : DV → Prop} (h : max2W ds Q) : ∃ i j, ds = [.int i, .int j] ∧ Q (.dat (.int (if j > i then j else i))) := by
  unfold max2W at h
  split at h
  · exact ⟨_, _, rfl, h⟩
  · exact h.elim
theorem min2_m : MN min2W := fun h q => by
  obtain ⟨i, j, rfl, q⟩ := min2_i q
  exact h _ q
theorem max2_m : MN max2W := fun h q => by
  obtain ⟨i, j, rfl, q⟩ := max2_i q
  exact h _ q
theorem min2_ok (hc : X.calm = true) : CaN X (.builtin "min") min2W := by
  intro ρ σ w xs ds Q QQ c hd h k
  obtain ⟨i, j, rfl, q⟩ := min2_i h
  cases hd with
  | cons h1 h2 =>
    cases h1
    cases h2 with
    | cons h1 h2 =>
      cases h1
      cases h2
      exact ⟨_, call_min2 hc, i, j, rfl, k.int c q⟩
theorem max2_ok (hc : X.calm = true) : CaN X (.builtin "max") max2W := by
  intro ρ σ w xs ds Q QQ c hd h k
  obtain ⟨i, j, rfl, q⟩ := max2_i h
  cases hd with
  | cons h1 h2 =>
    cases h1
    cases h2 with
    | cons h1 h2 =>
      cases h1
      cases h2
      exact ⟨_, call_max2 hc, i, j, rfl, k.int c q⟩
/-! ### sorted, ints -/
def sorts (ns : List Int) : List Int := ns.mergeSort (fun a b => decide (a ≤ b))
theorem sorts_perm (ns : List Int) : (sorts ns).Perm ns := List.mergeSort_perm ns _
theorem sorts_pair (ns : List Int) : (sorts ns).Pairwise (· ≤ ·) := by
  have h := List.pairwise_mergeSort (le := fun a b : Int => decide (a ≤ b)) (fun a b c h1 h2 => decide_eq_true (Int.le_trans (of_decide_eq_true h1) (of_decide_eq_true h2))) (fun a b => by
    rcases Int.le_total a b with h | h
    · rw [decide_eq_true h]; rfl
    · rw [decide_eq_true h, Bool.or_true]) ns
  exact h.imp fun h => of_decide_eq_true h
theorem sorts_is {ns ms : List Int} (h1 : ms.Perm ns) (h2 : ms.Pairwise (· ≤ ·)) : ms = sorts ns :=
  List.Perm.eq_of_pairwise (le := (· ≤ ·)) (fun a b _ _ h h' => Int.le_antisymm h h') h2 (sorts_pair ns) (h1.trans (sorts_perm ns).symm)
def sortW (d : PD) (Q : DV → Prop) : Prop := ∃ ns : List Int, d = .list (ns.map PyData.int) ∧ Q (.fr ((sorts ns).map PyData.int))
theorem sortW_m : M1 sortW := fun h ⟨bs, e, q⟩ => ⟨bs, e, h _ q⟩
theorem sort_ok : Ca1 X (.builtin "sorted") sortW := by
  rintro ρ σ w x d Q QQ c r ⟨ns, rfl, h⟩ k
  obtain ⟨l, vs, rfl, hl, hd⟩ := r
  rw [dpa_ints hd] at hl
  refine ⟨_, cr_sortedI, l, ns, rfl, SqL.of hl, fun ns' p h1 h2 hp => ?_⟩
  rw [sorts_is h1 h2]
  exact k.fr c hp (dpa_of_ints _) h
end
end Cu

set_option Elab.async false
set_option linter.all false
set_option maxRecDepth 100000
set_option maxHeartbeats 4000000
namespace Cu
open PySem PySem.Spec PyProof.Rows L2

/-! ### promises over data -/
abbrev PhiP := List PD → (PD → Prop) → Prop
abbrev PhiO := Res → List PD → (PD → Res → Prop) → Prop
/-- a def of data alone: it changes nothing -/
def spP (K : PySem.W.Frag) (Φ : PhiP) : Sp := fun vs H Q _ => ∃ (G : Hp) (ds : List PD), Ex G H ∧ DdAll K G vs ds ∧
  Φ ds fun d => ∀ v w', Ext ⟨G, H, fun _ => []⟩ w' → Ex w'.G w'.H → Dd K w'.G v d → Q v w'.H
/-- a def whose first argument is something of its caller's own -/
def spO (K : PySem.W.Frag) (Φ : PhiO) : Sp := fun vs H Q _ => ∃ (G : Hp) (fp : List Addr) (v0 : V) (vs' : List V) (R : Res) (ds : List PD), vs = v0 :: vs' ∧ Ex G H ∧ (∀ a, a ∈ fp → G a = none ∧ H a ≠ none) ∧
  R.rel K v0 fp G H ∧ DdAll K G vs' ds ∧
  Φ R ds fun d R' => ∀ v w' fp', Ext ⟨G, H, fun i => if i = 0 then fp else []⟩ w' → Ex w'.G w'.H → (∀ a, a ∈ fp' → w'.G a = none ∧ w'.H a ≠ none ∧ (a ∈ fp ∨ H a = none)) → R'.rel K v0 fp' w'.G w'.H → Dd K w'.G v d → Q v w'.H
structure FnAt (P : Program) (w : World) (K : PySem.W.Frag) (mg : Str → Option Value) (base : Heap) (x : Str) (k : Nat) (sp : Sp) : Prop where
  ex : ∃ (f : Addr) (fd : FuncData) (ps : List Str), FnOk P w K mg base CX0 k f fd ps sp ∧ mg x = some (.ref f) ∧ PySem.W.keepIn K (.ref f) = true ∧ Binds K fd ps []
section
variable {X : Cx} {a b c e f : Expr} {es : List Expr} {ta tb tc te : DT} {tr : DTa} {pos p : Pos} {x : Str} {k : Nat}
def dCall (Φ : PhiP) (tr : DTa) : DT := fun ρ Q => tr ρ fun ds ρ1 => Φ ds fun d => Q (.dat d) ρ1
theorem de_call {Φ : PhiP} (F : FnAt X.prog X.w X.K X.mg X.base x k (spP X.K Φ)) {k0 : Nat} (hr : Room k0 X.A) (hm : ∀ {ds : List PD} {Q Q' : PD → Prop}, (∀ d, Q d → Q' d) → Φ ds Q → Φ ds Q') (ha : DA X (a :: es) tr)
    (hk : k ≤ k0 := by decide) (hg : Gl X x := by rfl) (hd : (x == ("__debug__" : Str)) = false := by decide)
    (he : starEach (a :: es) X.env = (false, eval a X.env) :: starEach es X.env := by rfl) (hpl : (backTo pos (starEach es X.env)).any (·.1) = false := by rfl) : DE X (.Call (.Name x p) (a :: es) [] pos) (dCall Φ tr) where
  run := fun ρ σ w Q QQ cf h kk => by
    obtain ⟨fa, fd, ps, F, gm, kp, bi⟩ := F.ex
    refine wp_of (pe_call F (hr.mono hk) hg gm kp bi .nil pass0 pa_star0 hd he hpl) (ha.run ρ σ w _ _ cf h fun vs ds ρ1 w1 q1 c1 e1 hv => ?_)
    rw [List.append_nil]
    refine ⟨w1.G, ds, c1.ex, hv, hm (fun d q v w' ew ex hd => ?_) q1⟩
    have ext : Ext w1 ⟨w'.G, w'.H, w1.F⟩ := ⟨ew.gg, fun a o ha _ => ew.keep a o ha (fun _ z => nomatch z), fun a ha hg _ => ew.out a ha hg (fun _ z => nomatch z), ew.dom, fun i a ha => .inl ⟨i, ha⟩⟩
    have cf' : Cfg X.K ρ1 σ ⟨w'.G, w'.H, w1.F⟩ := c1.step ew.gg ex fun i a ha => by
      obtain ⟨h1, h2⟩ := c1.priv i a ha
      refine ⟨?_, ew.out a h2 h1 (fun _ z => nomatch z)⟩
      cases q : w1.H a with
      | none => exact absurd q h2
      | some o => exact ew.keep a o q (fun _ z => nomatch z)
    exact kk v (.dat d) ρ1 ⟨w'.G, w'.H, w1.F⟩ q cf' (e1.trans ext) hd
  mono := fun ρ Q Q' h q => ha.mono ρ _ _ (fun ds ρ1 q1 => hm (fun d => h _ _) q1) q
/-- the first argument is the slot i, handed over -/
def ownQ : Option Slot → (Res → Prop) → Prop
  | some (.own R), k => k R
  | _, _ => False
theorem ownQ.elim {o : Option Slot} {k : Res → Prop} (h : ownQ o k) : ∃ R, o = some (.own R) ∧ k R := by
  cases o with
  | none => exact (show False from h).elim
  | some s => cases s with
    | no => exact (show False from h).elim
    | pub d => exact (show False from h).elim
    | lst ds => exact (show False from h).elim
    | own R => exact ⟨_, rfl, h⟩
theorem ownQ.mono {o : Option Slot} {k k' : Res → Prop} (hk : ∀ s, k s → k' s) (h : ownQ o k) : ownQ o k' := by
  obtain ⟨R, rfl, q⟩ := ownQ.elim h
  exact hk R q
def dCallO (Φ : PhiO) (i : Nat) (tr : DTa) : DT := fun ρ Q => ownQ ρ[i]? fun _ => tr ρ fun ds ρ1 => ownQ ρ1[i]? fun R => Φ R ds fun d R' => Q (.dat d) (ρ1.set i (.own R'))
theorem dCallO_m {Φ : PhiO} {i : Nat} (hm : ∀ {s : Res} {ds : List PD} {Q Q' : PD → Res → Prop}, (∀ d s', Q d s' → Q' d s') → Φ s ds Q → Φ s ds Q') (ha : ∀ ρ Q Q', (∀ ds ρ', Q ds ρ' → Q' ds ρ') → tr ρ Q → tr ρ Q') :
    ∀ ρ Q Q', (∀ dv ρ', Q dv ρ' → Q' dv ρ') → dCallO Φ i tr ρ Q → dCallO Φ i tr ρ Q' := fun ρ Q Q' h q => ownQ.mono (fun _ q => ha ρ _ _ (fun ds ρ1 q => ownQ.mono (fun s q => hm (fun d s' => h _ _) q) q) q) q
/-- behind a call that was given the slot i -/
theorem own_back {K : PySem.W.Frag} {ρ : List Slot} {σ : L2.St} {w w' : Wd} {i : Nat} {s s' : Slot} {v0 : V} {fp' : List Addr} (c : Cfg K ρ σ w) (hs : ρ[i]? = some s) (hv : σ[i]? = some (some v0)) (ew : Ext ⟨w.G, w.H, fun j => if j = 0 then w.F i else []⟩ w') (ex : Ex w'.G w'.H)
    (hf : ∀ a, a ∈ fp' → w'.G a = none ∧ w'.H a ≠ none ∧ (a ∈ w.F i ∨ w.H a = none)) (so : SlotOk K w' s' (some v0) fp') :
    Cfg K (ρ.set i s') σ ⟨w'.G, w'.H, fun j => if j = i then fp' else w.F j⟩ ∧ Ext w ⟨w'.G, w'.H, fun j => if j = i then fp' else w.F j⟩ := by
  have nin : ∀ {a : Addr}, a ∉ w.F i → ∀ j, a ∉ (fun j => if j = 0 then w.F i else []) j := fun {a} ha j hj => by
    have hj : a ∈ (if j = 0 then w.F i else []) := hj
    by_cases z : j = 0
    · rw [if_pos z] at hj; exact ha hj
    · rw [if_neg z] at hj; cases hj
  have keep : ∀ {a : Addr}, w.H a ≠ none → a ∉ w.F i → w'.H a = w.H a := fun {a} h1 h2 => by
    cases q : w.H a with
    | none => exact absurd q h1
    | some o => exact ew.keep a o q (nin h2)
  have other : ∀ {j : Nat} {a : Addr}, j ≠ i → a ∈ w.F j → a ∉ w.F i := fun {j a} z h1 h2 => z (c.disj j i a h1 h2)
  refine ⟨⟨ex, fun j a hj => ?_, fun j k a hj hk => ?_, by rw [List.length_set]; exact c.len, fun j t o hj ho => ?_⟩, ⟨ew.gg, fun a o ha hfr => ?_, fun a ha hg hfr => ew.out a ha hg (nin (hfr i)), ew.dom, fun j a hj => ?_⟩⟩
  · have hj : a ∈ (if j = i then fp' else w.F j) := hj
    by_cases z : j = i
    · rw [if_pos z] at hj; exact ⟨(hf a hj).1, (hf a hj).2.1⟩
    · rw [if_neg z] at hj
      have hp := c.priv j a hj
      refine ⟨ew.out a hp.2 hp.1 (nin (other z hj)), ?_⟩
      show w'.H a ≠ none
      rw [keep hp.2 (other z hj)]; exact hp.2
  · have hj : a ∈ (if j = i then fp' else w.F j) := hj
    have hk : a ∈ (if k = i then fp' else w.F k) := hk
    by_cases z : j = i
    · by_cases y : k = i
      · rw [z, y]
      · rw [if_pos z] at hj; rw [if_neg y] at hk
        rcases (hf a hj).2.2 with h | h
        · exact absurd h (other y hk)
        · exact absurd h (c.priv k a hk).2
    · by_cases y : k = i
      · rw [if_neg z] at hj; rw [if_pos y] at hk
        rcases (hf a hk).2.2 with h | h
        · exact absurd h (other z hj)
        · exact absurd h (c.priv j a hj).2
      · rw [if_neg z] at hj; rw [if_neg y] at hk
        exact c.disj j k a hj hk
  · by_cases z : j = i
    · subst z
      rw [List.getElem?_set_self (by have := (List.getElem?_eq_some_iff.mp hs).1; exact this)] at hj
      cases hj
      rw [hv] at ho; cases ho
      show SlotOk K _ s' (some v0) (if j = j then fp' else w.F j)
      rw [if_pos rfl]
      cases s' with
      | no => trivial
      | pub d => exact so
      | lst ds => exact so
      | own R => exact so
    · rw [List.getElem?_set_ne (fun y => z y.symm)] at hj
      have q2 := c.slot j t o hj ho
      have fe : (fun j => if j = i then fp' else w.F j) j = w.F j := if_neg z
      show SlotOk K _ t o ((fun j => if j = i then fp' else w.F j) j)
      rw [fe]
      cases t with
      | no => trivial
      | pub d => obtain ⟨v2, e2, hd2⟩ := q2; exact ⟨v2, e2, dp_mono ew.gg _ _ hd2⟩
      | lst ds2 =>
        obtain ⟨l2, vs2, e2, ef2, hl2, hd2⟩ := q2
        have hm : l2 ∈ w.F j := by rw [ef2]; exact List.mem_singleton.mpr rfl
        exact ⟨l2, vs2, e2, ef2, (keep (c.priv j l2 hm).2 (other z hm)).trans hl2, dpa_mono ew.gg _ _ hd2⟩
      | own R =>
        obtain ⟨v2, e2, hr2⟩ := q2
        exact ⟨v2, e2, R.mono hr2 ew.gg fun a ha => keep (c.priv j a ha).2 (other z ha)⟩
  · exact ew.keep a o ha (nin (hfr i))
  · have hj : a ∈ (if j = i then fp' else w.F j) := hj
    by_cases z : j = i
    · rw [if_pos z] at hj
      rcases (hf a hj).2.2 with h | h
      · exact .inl ⟨i, h⟩
      · exact .inr h
    · rw [if_neg z] at hj; exact .inl ⟨j, hj⟩
theorem de_callO {y : Str} {py : Pos} {i : Nat} {Φ : PhiO} (F : FnAt X.prog X.w X.K X.mg X.base x k (spO X.K Φ)) {k0 : Nat} (hr : Room k0 X.A) (hm : ∀ {s : Res} {ds : List PD} {Q Q' : PD → Res → Prop}, (∀ d s', Q d s' → Q' d s') → Φ s ds Q → Φ s ds Q')
    (ha : DA X es tr) (hk : k ≤ k0 := by decide) (hN : X.N[i]? = some y := by rfl) (hv : Vis X.env.scope y := by first | exact Or.inl rfl | exact Or.inr (Or.inl rfl) | exact Or.inr (Or.inr rfl)) (hdy : (y == ("__debug__" : Str)) = false := by decide)
    (hcd : (y == ("__classdict__" : Str)) = false := by decide) (hg : Gl X x := by rfl) (hd : (x == ("__debug__" : Str)) = false := by decide)
    (he : starEach (.Name y py :: es) X.env = (false, eval (.Name y py) X.env) :: starEach es X.env := by rfl) (hpl : (backTo pos (starEach es X.env)).any (·.1) = false := by rfl) : DE X (.Call (.Name x p) (.Name y py :: es) [] pos) (dCallO Φ i tr) where
  run := fun ρ σ w Q QQ cf h kk => by
    obtain ⟨fa, fd, ps, F, gm, kp, bi⟩ := F.ex
    obtain ⟨R0, hs0, h⟩ := ownQ.elim h
    have hσ : ∃ v0, σ[i]? = some (some v0) := by
      have hi : i < σ.length := by rw [← cf.len]; exact (List.getElem?_eq_some_iff.mp hs0).1
      have e : σ[i]? = some σ[i] := List.getElem?_eq_getElem hi
      obtain ⟨v, e', _⟩ := cf.slot i _ _ hs0 e
      exact ⟨v, by rw [e, e']⟩
    obtain ⟨v0, hσ⟩ := hσ
    refine wp_of (pe_call F (hr.mono hk) hg gm kp bi .nil pass0 (pa_cons (pe_var hN hv hdy hcd) pa_star0 he) hd he hpl) ⟨v0, hσ, ha.run ρ σ w _ _ cf h fun vs ds ρ1 w1 q1 c1 e1 hv => ?_⟩
    obtain ⟨R, hs, q2⟩ := ownQ.elim q1
    rw [List.append_nil]
    obtain ⟨v1, ev, so⟩ := c1.slot i _ _ hs hσ
    cases ev
    refine ⟨w1.G, w1.F i, v0, vs, R, ds, rfl, c1.ex, fun a ha => c1.priv i a ha, so, hv, hm (fun d R' q v w' fp' ew ex hf so' hd => ?_) q2⟩
    obtain ⟨cf', ext⟩ := own_back (s' := .own R') c1 hs hσ ew ex hf ⟨v0, rfl, so'⟩
    exact kk v (.dat d) (ρ1.set i (.own R')) ⟨w'.G, w'.H, fun j => if j = i then fp' else w1.F j⟩ q cf' (e1.trans ext) hd
  mono := dCallO_m hm ha.mono
end
end Cu

set_option Elab.async false
set_option linter.all false
set_option maxRecDepth 100000
set_option maxHeartbeats 4000000
namespace Cu
open PySem PySem.Spec PyProof.Rows L2

/-! ### stores -/
theorem getElem?_set_same {α : Type} {l : List α} {i : Nat} {x : α} {y : α} (h : (l.set i x)[i]? = some y) : y = x := by
  by_cases z : i < l.length
  · rw [List.getElem?_set_self z] at h; exact (Option.some.inj h).symm
  · rw [List.getElem?_eq_none (by rw [List.length_set]; omega)] at h; cases h
/-- slot i is given to s, with its own things fp -/
theorem Cfg.give {K : PySem.W.Frag} {ρ : List Slot} {σ : L2.St} {w : Wd} {i : Nat} {s : Slot} {v : V} {fp : List Addr} (c : Cfg K ρ σ w) (hs : SlotOk K w s (some v) fp) (hf : ∀ a, a ∈ fp → w.G a = none ∧ w.H a ≠ none ∧ ∀ j, j ≠ i → a ∉ w.F j) :
    Cfg K (ρ.set i s) (σ.set i (some v)) ⟨w.G, w.H, fun j => if j = i then fp else w.F j⟩ := by
  refine ⟨c.ex, fun j a hj => ?_, fun j k a hj hk => ?_, by rw [List.length_set, List.length_set]; exact c.len, fun j t o hj ho => ?_⟩
  · have hj : a ∈ (if j = i then fp else w.F j) := hj
    by_cases z : j = i
    · rw [if_pos z] at hj; exact ⟨(hf a hj).1, (hf a hj).2.1⟩
    · rw [if_neg z] at hj; exact c.priv j a hj
  · have hj : a ∈ (if j = i then fp else w.F j) := hj
    have hk : a ∈ (if k = i then fp else w.F k) := hk
    by_cases z : j = i
    · by_cases y : k = i
      · rw [z, y]
      · rw [if_pos z] at hj; rw [if_neg y] at hk; exact absurd hk ((hf a hj).2.2 k y)
    · by_cases y : k = i
      · rw [if_neg z] at hj; rw [if_pos y] at hk; exact absurd hj ((hf a hk).2.2 j z)
      · rw [if_neg z] at hj; rw [if_neg y] at hk; exact c.disj j k a hj hk
  · by_cases z : j = i
    · subst z
      have e1 := getElem?_set_same hj
      have e2 := getElem?_set_same ho
      subst e1 e2
      have fe : (fun k => if k = j then fp else w.F k) j = fp := if_pos rfl
      show SlotOk K _ t (some v) ((fun k => if k = j then fp else w.F k) j)
      rw [fe]
      cases t with
      | no => trivial
      | pub d => exact hs
      | lst ds => exact hs
      | own R => exact hs
    · rw [List.getElem?_set_ne (fun y => z y.symm)] at hj ho
      have q2 := c.slot j t o hj ho
      have fe : (fun k => if k = i then fp else w.F k) j = w.F j := if_neg z
      show SlotOk K _ t o ((fun k => if k = i then fp else w.F k) j)
      rw [fe]
      cases t with
      | no => trivial
      | pub d => exact q2
      | lst ds => exact q2
      | own R => exact q2
theorem Ext.give {w0 w : Wd} {i : Nat} {fp : List Addr} (e : Ext w0 w) (hf : ∀ a, a ∈ fp → (∃ j, a ∈ w0.F j) ∨ w0.H a = none) : Ext w0 ⟨w.G, w.H, fun j => if j = i then fp else w.F j⟩ :=
  ⟨e.gg, e.keep, e.out, e.dom, fun j a hj => by
    have hj : a ∈ (if j = i then fp else w.F j) := hj
    by_cases z : j = i
    · rw [if_pos z] at hj; exact hf a hj
    · rw [if_neg z] at hj; exact e.fps j a hj⟩
/-- what a store makes of the slots; own: a list that is to stay one's own -/
def storeW (own : Bool) (i : Nat) (ρ : List Slot) (dv : DV) (k : List Slot → Prop) : Prop := match own, dv with
  | true, .fr ds => k (ρ.set i (.lst ds))
  | _, dv => toDat ρ dv fun d ρ2 => k (ρ2.set i (.pub d))
theorem storeW.mono {own : Bool} {i : Nat} {ρ : List Slot} {dv : DV} {k k' : List Slot → Prop} (h : ∀ ρ, k ρ → k' ρ) (q : storeW own i ρ dv k) : storeW own i ρ dv k' := by
  cases own with
  | false => exact toDat.mono (fun d ρ' => h _) q
  | true => cases dv with
    | fr ds => exact h _ q
    | dat d => exact toDat.mono (ρ := ρ) (dv := .dat d) (fun d ρ' q => h _ q) (show toDat ρ (.dat d) _ from q)
    | slt j => exact toDat.mono (ρ := ρ) (dv := .slt j) (Q := fun d ρ2 => k (ρ2.set i (.pub d))) (fun d ρ' q => h _ q) q
theorem storeD {K : PySem.W.Frag} {ρ : List Slot} {σ : L2.St} {w w1 : Wd} {v : V} {dv : DV} {i : Nat} {k : List Slot → Prop} (c : Cfg K ρ σ w1) (e : Ext w w1) (kv : ValOk K σ w w1 v dv) (h : toDat ρ dv fun d ρ2 => k (ρ2.set i (.pub d))) :
    ∃ ρ' w', k ρ' ∧ Cfg K ρ' (σ.set i (some v)) w' ∧ Ext w w' ∧ w'.H = w1.H := by
  obtain ⟨d, ρ2, w2, q2, c2, e2, hd, eH⟩ := toDat.run c e kv h
  exact ⟨ρ2.set i (.pub d), ⟨w2.G, w2.H, fun j => if j = i then [] else w2.F j⟩, q2, c2.give (s := .pub d) ⟨v, rfl, hd⟩ (fun a ha => nomatch ha), e2.give (fun a ha => nomatch ha), eH⟩
theorem storeW.run {K : PySem.W.Frag} {own : Bool} {ρ : List Slot} {σ : L2.St} {w w1 : Wd} {v : V} {dv : DV} {i : Nat} {k : List Slot → Prop} (c : Cfg K ρ σ w1) (e : Ext w w1) (kv : ValOk K σ w w1 v dv) (h : storeW own i ρ dv k) :
    ∃ ρ' w', k ρ' ∧ Cfg K ρ' (σ.set i (some v)) w' ∧ Ext w w' ∧ w'.H = w1.H := by
  cases own with
  | false => exact storeD c e kv h
  | true => cases dv with
    | dat d => exact storeD (dv := .dat d) c e kv h
    | slt j => exact storeD (dv := .slt j) c e kv h
    | fr ds =>
      obtain ⟨l, vs, ev, h0, h1, h2, h3, h4⟩ := kv
      subst ev
      refine ⟨ρ.set i (.lst ds), ⟨w1.G, w1.H, fun j => if j = i then [l] else w1.F j⟩, h, c.give (s := .lst ds) ⟨l, vs, rfl, rfl, h1, h4⟩ fun a ha => ?_, e.give fun a ha => ?_, rfl⟩
      · rw [List.mem_singleton.mp ha]
        exact ⟨h2, by rw [h1]; exact (fun z => nomatch z), fun j _ => h3 j⟩
      · rw [List.mem_singleton.mp ha]
        exact .inr h0
/-- one's own list changes -/
theorem Cfg.mut {K : PySem.W.Frag} {ρ : List Slot} {σ : L2.St} {w : Wd} {i : Nat} {ds : List PD} (c : Cfg K ρ σ w) (hs : ρ[i]? = some (.lst ds)) :
    ∃ l vs, σ[i]? = some (some (.ref l)) ∧ w.H l = some (.lst vs) ∧ DdAll K w.G vs ds ∧ ∀ vs' ds', DdAll K w.G vs' ds' → Cfg K (ρ.set i (.lst ds')) σ ⟨w.G, upd w.H l (.lst vs'), w.F⟩ ∧ Ext w ⟨w.G, upd w.H l (.lst vs'), w.F⟩ := by
  have hi : i < σ.length := by rw [← c.len]; exact (List.getElem?_eq_some_iff.mp hs).1
  have hσ : σ[i]? = some σ[i] := List.getElem?_eq_getElem hi
  obtain ⟨l, vs, eo, ef, hl, hd⟩ := c.slot i _ _ hs hσ
  have hm : l ∈ w.F i := by rw [ef]; exact List.mem_singleton.mpr rfl
  have hG := (c.priv i l hm).1
  refine ⟨l, vs, by rw [hσ, eo], hl, hd, fun vs' ds' hd' => ⟨⟨fun a o h => ?_, fun j a hj => ⟨(c.priv j a hj).1, ?_⟩, c.disj, by rw [List.length_set]; exact c.len, fun j t o hj ho => ?_⟩, ⟨Ex.refl _, fun a o ha hf => ?_, fun a _ hg _ => hg, fun a ha => ?_, fun j a hj => .inl ⟨j, hj⟩⟩⟩⟩
  · show upd w.H l (.lst vs') a = _
    rw [upd_ne (fun z => by rw [z, hG] at h; cases h)]
    exact c.ex a o h
  · show upd w.H l (.lst vs') a ≠ none
    by_cases z : a = l
    · rw [z, upd_same]; exact fun z => nomatch z
    · rw [upd_ne z]; exact (c.priv j a hj).2
  · by_cases z : j = i
    · subst z
      have e1 := getElem?_set_same hj
      subst e1
      rw [hσ] at ho; cases ho
      exact ⟨l, vs', eo, ef, upd_same, hd'⟩
    · rw [List.getElem?_set_ne (fun y => z y.symm)] at hj
      have q2 := c.slot j t o hj ho
      have ne : ∀ a, a ∈ w.F j → a ≠ l := fun a ha y => z (c.disj j i a ha (by rw [y]; exact hm))
      cases t with
      | no => trivial
      | pub d => exact q2
      | lst ds2 =>
        obtain ⟨l2, vs2, e2, ef2, hl2, hd2⟩ := q2
        refine ⟨l2, vs2, e2, ef2, ?_, hd2⟩
        show upd w.H l (.lst vs') l2 = _
        rw [upd_ne (ne l2 (by rw [ef2]; exact List.mem_singleton.mpr rfl))]
        exact hl2
      | own R =>
        obtain ⟨v2, e2, hr2⟩ := q2
        exact ⟨v2, e2, R.mono hr2 (Ex.refl _) fun a ha => upd_ne (ne a ha)⟩
  · show upd w.H l (.lst vs') a = _
    rw [upd_ne (fun z => hf i (by rw [z]; exact hm))]
    exact ha
  · show upd w.H l (.lst vs') a ≠ none
    by_cases z : a = l
    · rw [z, upd_same]; exact fun z => nomatch z
    · rw [upd_ne z]; exact ha

/-! ### statements -/
structure DEnds where
  nx : List Slot → Prop
  rt : PD → List Slot → Prop
  bk : List Slot → Prop := fun _ => False
  ct : List Slot → Prop := fun _ => False
abbrev DTS := DEnds → List Slot → Prop
def WpS (X : Cx) (st : Stmt) (D : Ends) (σ : L2.St) (H : Hp) : Prop := ∀ (pins : List (Addr × Obj)) (s : Shared), Inv X pins σ H s → wpAny (model X.prog X.w) X.A (exec st X.env) (SP X pins D) X.xe s
def WpSs (X : Cx) (sts : List Stmt) (D : Ends) (σ : L2.St) (H : Hp) : Prop := ∀ (pins : List (Addr × Obj)) (s : Shared), Inv X pins σ H s → wpAny (model X.prog X.w) X.A (execs sts X.env) (SP X pins D) X.xe s
theorem ps_star {X : Cx} {st : Stmt} : PS X st (WpS X st) := ⟨fun pins s _ _ _ I h => h pins s I⟩
theorem pss_star {X : Cx} {sts : List Stmt} : PSs X sts (WpSs X sts) := ⟨fun pins s _ _ _ I h => h pins s I⟩
theorem wps_of {X : Cx} {st : Stmt} {t : TS} {D : Ends} {σ : L2.St} {H : Hp} (h : PS X st t) (q : t D σ H) : WpS X st D σ H := fun pins s I => h.run pins s σ H D I q
theorem wpss_of {X : Cx} {st : List Stmt} {t : TS} {D : Ends} {σ : L2.St} {H : Hp} (h : PSs X st t) (q : t D σ H) : WpSs X st D σ H := fun pins s I => h.run pins s σ H D I q
structure Link (K : PySem.W.Frag) (D : DEnds) (DD : Ends) (w : Wd) : Prop where
  nx : ∀ ρ' σ' w', D.nx ρ' → Cfg K ρ' σ' w' → Ext w w' → DD.nx σ' w'.H
  rt : ∀ v d ρ' σ' w', D.rt d ρ' → Cfg K ρ' σ' w' → Ext w w' → Dd K w'.G v d → DD.rt v w'.H
  bk : ∀ ρ' σ' w', D.bk ρ' → Cfg K ρ' σ' w' → Ext w w' → DD.bk σ' w'.H
  ct : ∀ ρ' σ' w', D.ct ρ' → Cfg K ρ' σ' w' → Ext w w' → DD.ct σ' w'.H
theorem Link.later {K : PySem.W.Frag} {D : DEnds} {DD : Ends} {w w1 : Wd} (l : Link K D DD w) (e : Ext w w1) : Link K D DD w1 :=
  ⟨fun ρ' σ' w' q c e' => l.nx ρ' σ' w' q c (e.trans e'), fun v d ρ' σ' w' q c e' => l.rt v d ρ' σ' w' q c (e.trans e'), fun ρ' σ' w' q c e' => l.bk ρ' σ' w' q c (e.trans e'), fun ρ' σ' w' q c e' => l.ct ρ' σ' w' q c (e.trans e')⟩
structure DS (X : Cx) (st : Stmt) (t : DTS) : Prop where
  run : ∀ (ρ : List Slot) (σ : L2.St) (w : Wd) (D : DEnds) (DD : Ends), Cfg X.K ρ σ w → t D ρ → Link X.K D DD w → WpS X st DD σ w.H
structure DSs (X : Cx) (sts : List Stmt) (t : DTS) : Prop where
  run : ∀ (ρ : List Slot) (σ : L2.St) (w : Wd) (D : DEnds) (DD : Ends), Cfg X.K ρ σ w → t D ρ → Link X.K D DD w → WpSs X sts DD σ w.H
def dNext : DTS := fun D ρ => D.nx ρ
def dSeq (t u : DTS) : DTS := fun D ρ => t { D with nx := u D } ρ
section
variable {X : Cx} {a b c e f : Expr} {es : List Expr} {ta tb tc te : DT} {tr : DTa} {tt : DTt} {pos p : Pos} {x : Str} {st : Stmt} {rest sts sts2 : List Stmt} {t u : DTS}
theorem dss_nil : DSs X [] dNext := ⟨fun ρ σ w D DD cf h l => wpss_of pss_nil (l.nx ρ σ w h cf (Ext.refl w))⟩
theorem dss_cons (h1 : DS X st t) (h2 : DSs X rest u) : DSs X (st :: rest) (dSeq t u) := ⟨fun ρ σ w D DD cf h l => wpss_of (pss_cons ps_star pss_star)
  (h1.run ρ σ w _ _ cf h ⟨fun ρ' σ' w' q c' e' => h2.run ρ' σ' w' D DD c' q (l.later e'), l.rt, l.bk, l.ct⟩)⟩
theorem dss_one (h1 : DS X st t) : DSs X [st] t := ⟨fun ρ σ w D DD cf h l => wpss_of (pss_one ps_star) (h1.run ρ σ w D DD cf h l)⟩
theorem ds_pass : DS X (.Pass pos) dNext := ⟨fun ρ σ w D DD cf h l => wps_of ps_pass (l.nx ρ σ w h cf (Ext.refl w))⟩
def dBreak : DTS := fun D ρ => D.bk ρ
def dCont : DTS := fun D ρ => D.ct ρ
def dNever : DTS := fun _ _ => False
theorem ds_break : DS X (.Break pos) dBreak := ⟨fun ρ σ w D DD cf h l => wps_of ps_break (l.bk ρ σ w h cf (Ext.refl w))⟩
theorem ds_continue : DS X (.Continue pos) dCont := ⟨fun ρ σ w D DD cf h l => wps_of ps_continue (l.ct ρ σ w h cf (Ext.refl w))⟩
theorem ds_never : DS X st dNever := ⟨fun ρ σ w D DD cf h l => (show False from h).elim⟩
theorem dss_never : DSs X sts dNever := ⟨fun ρ σ w D DD cf h l => (show False from h).elim⟩
def dRet (te : DT) : DTS := fun D ρ => te ρ fun dv ρ1 => toDat ρ1 dv D.rt
theorem ds_ret (he : DE X e te) : DS X (.Return (some e) pos) (dRet te) := ⟨fun ρ σ w D DD cf h l => wps_of (ps_ret pe_star) (he.run ρ σ w _ _ cf h fun v dv ρ1 w1 q1 c1 e1 k1 => by
  obtain ⟨d, ρ2, w2, q2, c2, e2, hd, eH⟩ := toDat.run c1 e1 k1 q1
  rw [← eH]
  exact l.rt v d ρ2 σ w2 q2 c2 e2 hd)⟩
def dRetN : DTS := fun D ρ => D.rt .none ρ
theorem ds_retN : DS X (.Return none pos) dRetN := ⟨fun ρ σ w D DD cf h l => wps_of ps_retN (l.rt .non .none ρ σ w h cf (Ext.refl w) .non)⟩
def dIfS (tt : DTt) (t u : DTS) : DTS := fun D ρ => tt ρ fun b ρ1 => cnd b (t D ρ1) (u D ρ1)
theorem ds_if (hc : DTs X c tt) (ha : DSs X sts t) (hb : DSs X sts2 u) : DS X (.If c sts sts2 pos) (dIfS tt t u) := ⟨fun ρ σ w D DD cf h l => wps_of (ps_if pt_star pss_star pss_star) (hc.run ρ σ w _ _ cf h fun b ρ1 w1 q1 c1 e1 => by
  cases b with
  | true => exact iteT (ha.run ρ1 σ w1 D DD c1 (q1.t rfl) (l.later e1))
  | false => exact iteF (hb.run ρ1 σ w1 D DD c1 (q1.f rfl) (l.later e1)))⟩
def dSet (own : Bool) (i : Nat) (te : DT) : DTS := fun D ρ => te ρ fun dv ρ1 => storeW own i ρ1 dv D.nx
/-- name = e -/
theorem ds_set (own : Bool) (i : Nat) {pos' : Pos} (hN : X.N.Nodup) (he : DE X e te) (hi : X.N[i]? = some x := by rfl) (hx : Loc X.env.scope x := by first | exact Or.inl rfl | exact Or.inr rfl) (hs : swapsWith e (some (.Name x pos')) pos.line X.env = pure false := by rfl)
    (hf : X.fn x = true ∨ X.env.scope.names.lookup x = some .local := by first | exact .inl rfl | exact .inr rfl) : DS X (.Assign [.Name x pos'] e pos) (dSet own i te) := ⟨fun ρ σ w D DD cf h l => wps_of (ps_set hN hi hx pe_star hs hf) (he.run ρ σ w _ _ cf h fun v dv ρ1 w1 q1 c1 e1 k1 => by
  obtain ⟨ρ2, w2, q2, c2, e2, eH⟩ := storeW.run c1 e1 k1 q1
  show DD.nx (σ.set i (some v)) w1.H
  rw [← eH]
  exact l.nx ρ2 _ w2 q2 c2 e2)⟩
/-- name op= e, ints -/
def dAug (op : Operator) (i : Nat) (te : DT) : DTS := fun D ρ => varW i ρ[i]? fun x => match x with
  | .dat (.int n) => te ρ fun dv ρ1 => withD (rd ρ1 dv) fun d => match op, d with
    | .Add, .int m => D.nx (ρ1.set i (.pub (.int (n + m))))
    | .Sub, .int m => D.nx (ρ1.set i (.pub (.int (n - m))))
    | .Mult, .int m => CMul n m ∧ D.nx (ρ1.set i (.pub (.int (n * m))))
    | _, _ => False
  | _ => False
theorem ip_mul : PIp X .Mult (rI CMul fun i j => .int (i * j)) := iop_mul
theorem ds_aug {op : Operator} (i : Nat) {pos' : Pos} (hN : X.N.Nodup) (he : DE X e te) (hi : X.N[i]? = some x := by rfl) (hx : Loc X.env.scope x := by first | exact Or.inl rfl | exact Or.inr rfl)
    (hf : X.fn x = true ∨ X.env.scope.names.lookup x = some .local := by first | exact .inl rfl | exact .inr rfl) : DS X (.AugAssign (.Name x pos') op e pos) (dAug op i te) := ⟨fun ρ σ w D DD cf h l => by
  have h : varW i ρ[i]? _ := h
  cases hr : ρ[i]? with
  | none => rw [hr] at h; exact (show False from h).elim
  | some s =>
    rw [hr] at h
    have hii : i < σ.length := by rw [← cf.len]; exact (List.getElem?_eq_some_iff.mp hr).1
    have hs : σ[i]? = some σ[i] := List.getElem?_eq_getElem hii
    have q := cf.slot i s _ hr hs
    cases s with
    | no => exact (show False from h).elim
    | lst ds => exact (show False from h).elim
    | own R => exact (show False from h).elim
    | pub d =>
      cases d with
      | int n =>
        obtain ⟨v, ev, hd⟩ := q
        cases hd
        have fin : ∀ {ρ1 w1} {m : Int}, Cfg X.K ρ1 σ w1 → Ext w w1 → D.nx (ρ1.set i (.pub (.int m))) → DD.nx (σ.set i (some (.int m))) w1.H := fun {ρ1 w1 m} c1 e1 q1 =>
          l.nx _ _ ⟨w1.G, w1.H, fun j => if j = i then [] else w1.F j⟩ q1 (c1.give (s := .pub (.int m)) ⟨.int m, rfl, .int m⟩ (fun a ha => nomatch ha)) (e1.give (fun a ha => nomatch ha))
        cases op
        case Add =>
          refine wps_of (ps_aug hN hi hx pe_star ip_add hf) ⟨.int n, by rw [hs, ev], he.run ρ σ w _ _ cf h fun v dv ρ1 w1 q1 c1 e1 k1 => ?_⟩
          obtain ⟨d, h1, q2⟩ := withD.elim q1
          have r := ShRd.of c1 k1 (Ext.refl w1) h1
          cases d with
          | int m => rw [r.int]; exact ⟨n, m, rfl, rfl, fin c1 e1 q2⟩
          | _ => exact (show False from q2).elim
        case Sub =>
          refine wps_of (ps_aug hN hi hx pe_star ip_sub hf) ⟨.int n, by rw [hs, ev], he.run ρ σ w _ _ cf h fun v dv ρ1 w1 q1 c1 e1 k1 => ?_⟩
          obtain ⟨d, h1, q2⟩ := withD.elim q1
          have r := ShRd.of c1 k1 (Ext.refl w1) h1
          cases d with
          | int m => rw [r.int]; exact ⟨n, m, rfl, rfl, fin c1 e1 q2⟩
          | _ => exact (show False from q2).elim
        case Mult =>
          refine wps_of (ps_aug hN hi hx pe_star ip_mul hf) ⟨.int n, by rw [hs, ev], he.run ρ σ w _ _ cf h fun v dv ρ1 w1 q1 c1 e1 k1 => ?_⟩
          obtain ⟨d, h1, q2⟩ := withD.elim q1
          have r := ShRd.of c1 k1 (Ext.refl w1) h1
          cases d with
          | int m => rw [r.int]; exact ⟨n, m, rfl, rfl, q2.1, fin c1 e1 q2.2⟩
          | _ => exact (show False from q2).elim
        all_goals
          refine wps_of (ps_aug hN hi hx pe_star (ti := fun _ _ _ _ => False) (fun _ _ _ _ _ _ _ _ _ _ _ _ h => h.elim) hf) ⟨.int n, by rw [hs, ev], he.run ρ σ w _ _ cf h fun v dv ρ1 w1 q1 c1 e1 k1 => ?_⟩
          obtain ⟨d, h1, q2⟩ := withD.elim q1
          exact (show False from by cases d <;> exact q2).elim
      | _ => exact (show False from h).elim⟩
/-- one's own list -/
def lstQ : Option Slot → (List PD → Prop) → Prop
  | some (.lst ds), k => k ds
  | _, _ => False
theorem lstQ.elim {o : Option Slot} {k : List PD → Prop} (h : lstQ o k) : ∃ ds, o = some (.lst ds) ∧ k ds := by
  cases o with
  | none => exact (show False from h).elim
  | some s => cases s with
    | no => exact (show False from h).elim
    | pub d => exact (show False from h).elim
    | lst ds => exact ⟨ds, rfl, h⟩
    | own R => exact (show False from h).elim
theorem app_line {n : Nat} (h : n < 16000000) : n < sizeLine := Nat.lt_of_lt_of_le h (by decide)
/-- x.append(e) -/
def dApp (i : Nat) (te : DT) : DTS := fun D ρ => lstQ ρ[i]? fun _ => te ρ fun dv ρ1 => toDat ρ1 dv fun d ρ2 => lstQ ρ2[i]? fun ds => ds.length < 16000000 ∧ D.nx (ρ2.set i (.lst (ds ++ [d])))
theorem ds_app (i : Nat) {pn apos cpos spos : Pos} (he : DE X e te) (hN : X.N[i]? = some x := by rfl) (hv : Vis X.env.scope x := by first | exact Or.inl rfl | exact Or.inr (Or.inl rfl) | exact Or.inr (Or.inr rfl)) (hd : (x == ("__debug__" : Str)) = false := by decide)
    (hcd : (x == ("__classdict__" : Str)) = false := by decide) (hs : swapsWith (.Call (.Attribute (.Name x pn) "append" apos) [e] [] cpos) none spos.line X.env = pure false := by rfl)
    (hbase : attributeBase (.Name x pn) "append" X.env (eval (.Name x pn) X.env) = eval (.Name x pn) X.env := by rfl)
    (hfew : ((backTo cpos (starEach (e :: []) X.env)).all (fun x => !x.1) && (backToKw cpos (keywordEach [] X.env)).all (fun x => x.1.isSome)
      && decide ((e :: []).length + ([] : List Keyword).length + (if ([] : List Keyword).isEmpty then 0 else 1) < 30)) = true := by rfl)
    (hline : (apos.endLine == cpos.line) = true := by rfl) (hst : starEach (e :: []) X.env = (false, eval e X.env) :: starEach [] X.env := by rfl) :
    DS X (.Expr (.Call (.Attribute (.Name x pn) "append" apos) [e] [] cpos) spos) (dApp i te) := ⟨fun ρ σ w D DD cf h l => by
  obtain ⟨ds0, h0, q0⟩ := lstQ.elim h
  obtain ⟨l0, vs0, hσ, hl0, _, _⟩ := cf.mut h0
  refine wps_of (ps_expr (pe_bm PySem.F.plainAttrs_list PySem.F.slot_list_append PySem.F.type_list_append mt_append (pe_var hN hv hd hcd) (pa_cons pe_star pa_nil hst) hbase hfew hline hst rfl) hs) ⟨.ref l0, hσ, .inl ⟨rfl, _, SqL.of hl0⟩, ?_⟩
  refine he.run ρ σ w _ _ cf q0 fun v dv ρ1 w1 q1 c1 e1 k1 => ?_
  obtain ⟨d, ρ2, w2, q2, c2, e2, hd2, eH⟩ := toDat.run c1 e1 k1 q1
  obtain ⟨ds, h2, hz, q3⟩ := lstQ.elim q2
  obtain ⟨l1, vs, hσ2, hl, hdd, mk⟩ := c2.mut h2
  rw [hσ] at hσ2
  cases hσ2
  obtain ⟨c3, e3⟩ := mk (vs ++ [v]) (ds ++ [d]) (dpa_app hdd (.cons hd2 .nil))
  rw [← eH]
  exact ⟨l0, vs, v, rfl, rfl, hl, by rw [dpa_len hdd]; exact app_line hz, l.nx _ σ _ q3 c3 (e2.trans e3)⟩⟩
def setAt (ds : List PD) (n : Int) (d : PD) : Option (List PD) := (ixN ds.length n).map fun j => ds.set j d
/-- x[k] = e, one's own list -/
def dSetIx (i : Nat) (tk te : DT) : DTS := fun D ρ => te ρ fun dv ρ1 => toDat ρ1 dv fun d ρ2 => lstQ ρ2[i]? fun _ => tk ρ2 fun kv ρ3 => withD (rd ρ3 kv) fun k => lstQ ρ3[i]? fun ds => match k with
  | .int n => ∃ es, setAt ds n d = some es ∧ D.nx (ρ3.set i (.lst es))
  | _ => False
theorem ds_setIx (i : Nat) {pn ps spos : Pos} {tk : DT} (he : DE X e te) (hk : DE X b tk) (hN : X.N[i]? = some x := by rfl) (hv : Vis X.env.scope x := by first | exact Or.inl rfl | exact Or.inr (Or.inl rfl) | exact Or.inr (Or.inr rfl)) (hd : (x == ("__debug__" : Str)) = false := by decide)
    (hcd : (x == ("__classdict__" : Str)) = false := by decide)
    (ha : ∀ v, assign (.Subscript (.Name x pn) b ps) X.env v = (do
      let ov ← holding [v] (eval (.Name x pn) X.env)
      let iv ← holding [v, ov] (eval b X.env)
      standAt ps
      holding [v, ov, iv] (setItem ov iv v)
      release [v, ov, iv] []) := by intro _; rfl) (hs : swapsWithSole [.Subscript (.Name x pn) b ps] e spos.line X.env = pure false := by rfl) (hw : swappedStores [.Subscript (.Name x pn) b ps] e X.env = pure none := by rfl)
    (h1 : (assignEach [.Subscript (.Name x pn) b ps] X.env).map (·.2) = [assign (.Subscript (.Name x pn) b ps) X.env] := by rfl) :
    DS X (.Assign [.Subscript (.Name x pn) b ps] e spos) (dSetIx i tk te) := ⟨fun ρ σ w D DD cf h l => by
  refine wps_of (ps_asg pe_star (pg_sub (pe_var hN hv hd hcd) pe_star set_list ha) hs hw h1) (he.run ρ σ w _ _ cf h fun v dv ρ1 w1 q1 c1 e1 k1 => ?_)
  obtain ⟨d, ρ2, w2, q2, c2, e2, hd2, eH⟩ := toDat.run c1 e1 k1 q1
  obtain ⟨ds0, h0, q3⟩ := lstQ.elim q2
  obtain ⟨l0, vs0, hσ, hl0, _, _⟩ := c2.mut h0
  rw [← eH]
  refine ⟨.ref l0, hσ, hk.run ρ2 σ w2 _ _ c2 q3 fun kv dk ρ3 w3 q4 c3 e3 k3 => ?_⟩
  obtain ⟨kd, h3, q5⟩ := withD.elim q4
  obtain ⟨ds, h4, q6⟩ := lstQ.elim q5
  have r := ShRd.of c3 k3 (Ext.refl w3) h3
  obtain ⟨l1, vs, hσ2, hl, hdd, mk⟩ := c3.mut h4
  rw [hσ] at hσ2
  cases hσ2
  cases kd with
  | int n =>
    obtain ⟨es, he, q6⟩ := q6
    unfold setAt at he
    cases hj : ixN ds.length n with
    | none => rw [hj] at he; cases he
    | some j =>
      rw [hj] at he
      cases he
      obtain ⟨c4, e4⟩ := mk (vs.set j v) (ds.set j d) (dpa_set j hdd (dp_mono e3.gg _ _ hd2))
      rw [r.int]
      exact ⟨l0, vs, n, j, rfl, rfl, hl, by rw [dpa_len hdd]; exact hj, l.nx _ σ _ q6 c4 ((e2.trans e3).trans e4)⟩
  | _ => exact (show False from q6).elim⟩
end
end Cu

set_option Elab.async false
set_option linter.all false
set_option maxRecDepth 100000
set_option maxHeartbeats 4000000
namespace Cu
open PySem PySem.Spec PyProof.Rows L2

/-! ### targets -/
abbrev DTg := PD → List Slot → (List Slot → Prop) → Prop
abbrev DTgs := List PD → List Slot → (List Slot → Prop) → Prop
def WpG (X : Cx) (tg : Expr) (v : V) (σ : L2.St) (H : Hp) (Q : L2.St → Hp → Prop) : Prop := ∀ (pins : List (Addr × Obj)) (s : Shared) (u : Value), Inv X pins σ H s → RelV v u → wpAny (model X.prog X.w) X.A (assign tg X.env u) (fun _ s' => ∃ σ' H', Inv X pins σ' H' s' ∧ Q σ' H') X.xe s
theorem pg_star {X : Cx} {tg : Expr} : PG X tg (WpG X tg) := ⟨fun pins s σ H v u Q I r h => h pins s u I r⟩
theorem wpg_of {X : Cx} {tg : Expr} {t : TG} {v : V} {σ : L2.St} {H : Hp} {Q : L2.St → Hp → Prop} (h : PG X tg t) (q : t v σ H Q) : WpG X tg v σ H Q := fun pins s u I r => h.run pins s σ H v u Q I r q
def SameBut (ts : List Nat) (σ σ' : L2.St) : Prop := σ'.length = σ.length ∧ ∀ i, i ∉ ts → σ'[i]? = σ[i]?
theorem SameBut.trans {ts us : List Nat} {σ σ1 σ2 : L2.St} (a : SameBut ts σ σ1) (b : SameBut us σ1 σ2) : SameBut (ts ++ us) σ σ2 :=
  ⟨b.1.trans a.1, fun i hi => (b.2 i fun z => hi (List.mem_append_right _ z)).trans (a.2 i fun z => hi (List.mem_append_left _ z))⟩
/-- ts: the slots it stores in -/
structure DG (X : Cx) (tg : Expr) (g : DTg) (ts : List Nat) : Prop where
  run : ∀ (ρ : List Slot) (σ : L2.St) (w : Wd) (v : V) (d : PD) (k : List Slot → Prop) (kk : L2.St → Hp → Prop), Cfg X.K ρ σ w → Dd X.K w.G v d → g d ρ k →
    (∀ ρ' σ' w', k ρ' → Cfg X.K ρ' σ' w' → Ext w w' → w'.H = w.H → w'.G = w.G → (∀ i, w'.F i = w.F i ∨ w'.F i = []) → SameBut ts σ σ' → kk σ' w'.H) → WpG X tg v σ w.H kk
structure DGs (X : Cx) (es : List Expr) (g : DTgs) (ts : List Nat) : Prop where
  run : ∃ t : TGs, PGs X es t ∧ ∀ (ρ : List Slot) (σ : L2.St) (w : Wd) (vs : List V) (ds : List PD) (k : List Slot → Prop) (kk : L2.St → Hp → Prop), Cfg X.K ρ σ w → DdAll X.K w.G vs ds → g ds ρ k →
    (∀ ρ' σ' w', k ρ' → Cfg X.K ρ' σ' w' → Ext w w' → w'.H = w.H → w'.G = w.G → (∀ i, w'.F i = w.F i ∨ w'.F i = []) → SameBut ts σ σ' → kk σ' w'.H) → t vs σ w.H kk
def gN (i : Nat) : DTg := fun d ρ k => k (ρ.set i (.pub d))
def gsNil : DTgs := fun ds ρ k => match ds with
  | [] => k ρ
  | _ => False
def gsCons (g : DTg) (gs : DTgs) : DTgs := fun ds ρ k => match ds with
  | d :: ds => g d ρ fun ρ' => gs ds ρ' k
  | [] => False
def gT (gs : DTgs) : DTg := fun d ρ k => match d with
  | .tuple ds => gs ds ρ k
  | _ => False
def gL (gs : DTgs) : DTg := fun d ρ k => match d with
  | .list ds => gs ds ρ k
  | _ => False
section
variable {X : Cx} {a b c e f : Expr} {es : List Expr} {ta tb tc te : DT} {tr : DTa} {tt : DTt} {pos p : Pos} {x : Str} {st : Stmt} {rest sts sts2 : List Stmt} {t u : DTS} {g : DTg} {gs : DTgs} {ts us : List Nat}
theorem dg_n (i : Nat) (hN : X.N.Nodup) (hi : X.N[i]? = some x := by rfl) (hx : Loc X.env.scope x := by first | exact Or.inl rfl | exact Or.inr rfl) (hf : X.fn x = true ∨ X.env.scope.names.lookup x = some .local := by first | exact .inl rfl | exact .inr rfl) : DG X (.Name x pos) (gN i) [i] :=
  ⟨fun ρ σ w v d k kk cf hd h l => wpg_of (pg_name hN hi hx hf) (l _ _ ⟨w.G, w.H, fun j => if j = i then [] else w.F j⟩ h (cf.give (s := .pub d) ⟨v, rfl, hd⟩ (fun a ha => nomatch ha)) ((Ext.refl w).give (fun a ha => nomatch ha)) rfl rfl (fun j => by
    show (if j = i then [] else w.F j) = w.F j ∨ (if j = i then [] else w.F j) = []
    by_cases z : j = i
    · rw [if_pos z]; exact .inr rfl
    · rw [if_neg z]; exact .inl rfl) ⟨List.length_set, fun j hj => List.getElem?_set_ne fun z => hj (by rw [z]; exact List.mem_singleton.mpr rfl)⟩)⟩
theorem dgs_nil : DGs X [] gsNil [] := ⟨_, pgs_nil, fun ρ σ w vs ds k kk cf hd h l => by
  cases hd with
  | nil => exact ⟨rfl, l ρ σ w h cf (Ext.refl w) rfl rfl (fun _ => .inl rfl) ⟨rfl, fun _ _ => rfl⟩⟩
  | cons _ _ => exact (show False from h).elim⟩
theorem dgs_cons (h1 : DG X e g ts) (h2 : DGs X es gs us) (hs : (assignEach (e :: es) X.env).map (·.2) = assign e X.env :: (assignEach es X.env).map (·.2) := by rfl) : DGs X (e :: es) (gsCons g gs) (ts ++ us) := by
  obtain ⟨t2, p2, q2⟩ := h2.run
  refine ⟨_, pgs_cons pg_star p2 hs, fun ρ σ w vs ds k kk cf hd h l => ?_⟩
  cases hd with
  | nil => exact (show False from h).elim
  | cons hd1 hd2 =>
    refine ⟨_, _, rfl, h1.run ρ σ w _ _ _ _ cf hd1 h fun ρ1 σ1 w1 q c1 e1 eH eG eF eS => ?_⟩
    refine q2 ρ1 σ1 w1 _ _ k kk c1 (by rw [eG]; exact hd2) q fun ρ' σ' w' q' c' e' eH' eG' eF' eS' => ?_
    refine l ρ' σ' w' q' c' (e1.trans e') (eH'.trans eH) (eG'.trans eG) (fun i => ?_) (eS.trans eS')
    rcases eF' i with z | z
    · rw [z]; exact eF i
    · exact .inr z
theorem dg_t {k : _} {n : Nat} (hc : X.calm = true) (h : DGs X es gs ts) (hn : (assignEach es X.env).length = n := by rfl) (hst : (assignEach es X.env).findIdx? (·.1) = none := by rfl) (hl : ∀ {ds : List PD} {ρ : List Slot} {k : List Slot → Prop}, gs ds ρ k → ds.length = n) : DG X (.Tuple es k pos) (gT gs) ts := by
  obtain ⟨t2, p2, q2⟩ := h.run
  refine ⟨fun ρ σ w v d k kk cf hd h l => wpg_of (pg_tup hc p2 hn hst) ?_⟩
  cases hd with
  | tup ht ha => exact ⟨_, _, rfl, SqT.of (cf.ex _ _ ht), by rw [dpa_len ha]; exact hl h, q2 ρ σ w _ _ k kk cf ha h l⟩
  | _ => exact (show False from h).elim
theorem dg_l {k : _} {n : Nat} (hc : X.calm = true) (h : DGs X es gs ts) (hn : (assignEach es X.env).length = n := by rfl) (hst : (assignEach es X.env).findIdx? (·.1) = none := by rfl) (hl : ∀ {ds : List PD} {ρ : List Slot} {k : List Slot → Prop}, gs ds ρ k → ds.length = n) : DG X (.Tuple es k pos) (gL gs) ts := by
  obtain ⟨t2, p2, q2⟩ := h.run
  refine ⟨fun ρ σ w v d k kk cf hd h l => wpg_of (pg_unl hc p2 hn hst) ?_⟩
  cases hd with
  | lst ht ha => exact ⟨_, _, rfl, SqL.of (cf.ex _ _ ht), by rw [dpa_len ha]; exact hl h, q2 ρ σ w _ _ k kk cf ha h l⟩
  | _ => exact (show False from h).elim
theorem gs1 {i : Nat} {ds : List PD} {ρ : List Slot} {k : List Slot → Prop} (h : gsCons (gN i) gsNil ds ρ k) : ds.length = 1 := by
  cases ds with
  | nil => exact (show False from h).elim
  | cons d ds => cases ds with
    | nil => rfl
    | cons _ _ => exact (show False from h).elim
theorem gs2 {i j : Nat} {ds : List PD} {ρ : List Slot} {k : List Slot → Prop} (h : gsCons (gN i) (gsCons (gN j) gsNil) ds ρ k) : ds.length = 2 := by
  cases ds with
  | nil => exact (show False from h).elim
  | cons d ds => rw [List.length_cons, gs1 (show gsCons (gN j) gsNil ds _ k from h)]
theorem gs3 {i j l : Nat} {ds : List PD} {ρ : List Slot} {k : List Slot → Prop} (h : gsCons (gN i) (gsCons (gN j) (gsCons (gN l) gsNil)) ds ρ k) : ds.length = 3 := by
  cases ds with
  | nil => exact (show False from h).elim
  | cons d ds => rw [List.length_cons, gs2 (show gsCons (gN j) (gsCons (gN l) gsNil) ds _ k from h)]
/-- target = e -/
def dAsg (te : DT) (g : DTg) : DTS := fun D ρ => te ρ fun dv ρ1 => toDat ρ1 dv fun d ρ2 => g d ρ2 D.nx
theorem ds_asg {tg : Expr} (he : DE X e te) (hg : DG X tg g ts) (hs : swapsWithSole [tg] e pos.line X.env = pure false := by rfl) (hw : swappedStores [tg] e X.env = pure none := by rfl)
    (h1 : (assignEach [tg] X.env).map (·.2) = [assign tg X.env] := by rfl) : DS X (.Assign [tg] e pos) (dAsg te g) := ⟨fun ρ σ w D DD cf h l => wps_of (ps_asg pe_star pg_star hs hw h1) (he.run ρ σ w _ _ cf h fun v dv ρ1 w1 q1 c1 e1 k1 => by
  obtain ⟨d, ρ2, w2, q2, c2, e2, hd, eH⟩ := toDat.run c1 e1 k1 q1
  rw [← eH]
  exact hg.run ρ2 σ w2 v d _ _ c2 hd q2 fun ρ' σ' w' q' c' e' _ _ _ _ => l.nx ρ' σ' w' q' c' (e2.trans e'))⟩

/-! ### what is walked -/
def WpI (X : Cx) (tg e : Expr) (σ : L2.St) (H : Hp) (R : It → Hp → Prop) : Prop := ∀ (pins : List (Addr × Obj)) (s : Shared), Inv X pins σ H s → wpAny (model X.prog X.w) X.A (eval e X.env) (fun v s1 => wpAny (model X.prog X.w) X.A (pyIter v) (PIE X pins σ tg R) X.xe s1) X.xe s
theorem pi_star {tg : Expr} : PI X tg e (WpI X tg e) := ⟨fun pins s _ _ _ I h => h pins s I⟩
theorem wpi_of {tg : Expr} {t : TI} {σ : L2.St} {H : Hp} {R : It → Hp → Prop} (h : PI X tg e t) (q : t σ H R) : WpI X tg e σ H R := fun pins s I => h.run pins s σ H R I q
/-- the iterator gives the data ds, from the world w on; src: a list of someone's own that must stand -/
structure Yields (K : PySem.W.Frag) (J : It) (ds : List PD) (src : Option Addr) (w : Wd) : Prop where
  stop : ∀ w', Ext w w' → Ex w'.G w'.H → (∀ l, l ∈ src → w'.H l = w.H l) → J.stop ds.length w'.H
  go : ∀ i w', i < ds.length → Ext w w' → Ex w'.G w'.H → (∀ l, l ∈ src → w'.H l = w.H l) → J.go i w'.H
  yld : ∀ i w' v H'', i < ds.length → Ext w w' → Ex w'.G w'.H → (∀ l, l ∈ src → w'.H l = w.H l) → J.yld i w'.H v H'' → ∃ d w3, ds[i]? = some d ∧ w3.H = H'' ∧ w3.F = w'.F ∧ Ext w' w3 ∧ (∀ ρ σ, Cfg K ρ σ w' → Cfg K ρ σ w3) ∧ Dd K w3.G v d
abbrev DTi := List Slot → (List PD → List Slot → Prop) → Prop
structure DI (X : Cx) (tg e : Expr) (ti : DTi) : Prop where
  run : ∀ (ρ : List Slot) (σ : L2.St) (w : Wd) (Q : List PD → List Slot → Prop) (R : It → Hp → Prop), Cfg X.K ρ σ w → ti ρ Q →
    (∀ ds ρ' w' J, Q ds ρ' → Cfg X.K ρ' σ w' → Ext w w' → Yields X.K J ds none w' → R J w'.H) → WpI X tg e σ w.H R
  mono : ∀ (ρ : List Slot) (Q Q' : List PD → List Slot → Prop), (∀ ds ρ', Q ds ρ' → Q' ds ρ') → ti ρ Q → ti ρ Q'
theorem yields_list {K : PySem.W.Frag} {w : Wd} {a : Addr} {vs : List V} {ds : List PD} (h : w.G a = some (.lst vs)) (hd : DdAll K w.G vs ds) : Yields K (Itl K a) ds none w where
  stop := fun w' e ex _ => ⟨vs, SqL.of (ex _ _ (e.gg _ _ h)), by rw [dpa_len hd]; exact Nat.le_refl _⟩
  go := fun i w' hi e ex _ => by
    obtain ⟨v, hv, _⟩ := dpa_get hd (List.getElem?_eq_getElem hi)
    exact ⟨vs, v, SqL.of (ex _ _ (e.gg _ _ h)), hv⟩
  yld := fun i w' v H'' hi e ex _ y => by
    obtain ⟨eH, hy⟩ := y
    have hv := hy vs (SqL.of (ex _ _ (e.gg _ _ h)))
    obtain ⟨d, h1, h2⟩ := dpa_at hd hv
    exact ⟨d, w', h1, eH.symm, rfl, Ext.refl _, fun _ _ c => c, dp_mono e.gg _ _ h2⟩
theorem yields_own {K : PySem.W.Frag} {w : Wd} {a : Addr} {vs : List V} {ds : List PD} (h : w.H a = some (.lst vs)) (hd : DdAll K w.G vs ds) : Yields K (Itl K a) ds (some a) w where
  stop := fun w' e ex hs => ⟨vs, SqL.of ((hs a rfl).trans h), by rw [dpa_len hd]; exact Nat.le_refl _⟩
  go := fun i w' hi e ex hs => by
    obtain ⟨v, hv, _⟩ := dpa_get hd (List.getElem?_eq_getElem hi)
    exact ⟨vs, v, SqL.of ((hs a rfl).trans h), hv⟩
  yld := fun i w' v H'' hi e ex hs y => by
    obtain ⟨eH, hy⟩ := y
    have hv := hy vs (SqL.of ((hs a rfl).trans h))
    obtain ⟨d, h1, h2⟩ := dpa_at hd hv
    exact ⟨d, w', h1, eH.symm, rfl, Ext.refl _, fun _ _ c => c, dp_mono e.gg _ _ h2⟩
theorem yields_tup {K : PySem.W.Frag} {w : Wd} {a : Addr} {vs : List V} {ds : List PD} (h : w.G a = some (.tup vs)) (hd : DdAll K w.G vs ds) : Yields K (Itt K a) ds none w where
  stop := fun w' e ex _ => ⟨vs, SqT.of (ex _ _ (e.gg _ _ h)), by rw [dpa_len hd]; exact Nat.le_refl _⟩
  go := fun i w' hi e ex _ => by
    obtain ⟨v, hv, _⟩ := dpa_get hd (List.getElem?_eq_getElem hi)
    exact ⟨vs, v, SqT.of (ex _ _ (e.gg _ _ h)), hv⟩
  yld := fun i w' v H'' hi e ex _ y => by
    obtain ⟨eH, hy⟩ := y
    have hv := hy vs (SqT.of (ex _ _ (e.gg _ _ h)))
    obtain ⟨d, h1, h2⟩ := dpa_at hd hv
    exact ⟨d, w', h1, eH.symm, rfl, Ext.refl _, fun _ _ c => c, dp_mono e.gg _ _ h2⟩
/-- a list or a tuple, by its value -/
def iSeq (K : PySem.W.Frag) (te : TE) : TI := fun σ H R => te σ H fun x H1 => ∃ a, x = .ref a ∧ ((∃ xs, SqL K H1 a xs ∧ R (Itl K a) H1) ∨ ∃ xs, SqT K H1 a xs ∧ R (Itt K a) H1)
theorem pi_seq {tg l : Expr} {tl : TE} (hl : PE X l tl) : PI X tg l (iSeq X.K tl) := by
  refine ⟨fun pins s σ H R I h => ?_⟩
  refine thn (hl.run pins s σ H _ I h) fun v s1 ⟨x, H1, I1, r1, q1⟩ => ?_
  obtain ⟨a, e, q⟩ := q1
  subst e
  cases r1
  rcases q with ⟨xs, hq, q⟩ | ⟨xs, hq, q⟩
  · obtain ⟨its, rv, p, hz⟩ := I1.list hq
    refine wpAny_pyIter_list p.isList ?_
    refine ⟨s1.heap.objs.size, [s1.heap.objs.size], _, _, H1, rfl, I1.kept (t' := s1.toks) fun b o e => Heap.get?_push_of_some _ e, turn_list a _, ⟨_, Heap.get?_push_size _ rfl, rfl, rfl⟩, fun b hb => ?_, q⟩
    have e : b = s1.heap.objs.size := by simpa using hb
    subst e
    exact I1.fpOk (Nat.le_refl _) (I1.hok.fresh (Nat.le_refl _))
  · obtain ⟨its, rv, p, hz⟩ := I1.tuple hq
    refine wpAny_pyIter_tuple (show s1.heap.IsTuple a its.toArray from p) ?_
    refine ⟨s1.heap.objs.size, [s1.heap.objs.size], _, _, H1, rfl, I1.kept (t' := s1.toks) fun b o e => Heap.get?_push_of_some _ e, turn_tuple a _, ⟨_, Heap.get?_push_size _ rfl, rfl, rfl⟩, fun b hb => ?_, q⟩
    have e : b = s1.heap.objs.size := by simpa using hb
    subst e
    exact I1.fpOk (Nat.le_refl _) (I1.hok.fresh (Nat.le_refl _))
def itemsQ : PD → (List PD → Prop) → Prop
  | .list ds, k => k ds
  | .tuple ds, k => k ds
  | _, _ => False
theorem itemsQ.mono {d : PD} {k k' : List PD → Prop} (h : ∀ ds, k ds → k' ds) (q : itemsQ d k) : itemsQ d k' := by
  cases d <;> first | exact (show False from q).elim | exact h _ q
def iExp (te : DT) : DTi := fun ρ Q => te ρ fun dv ρ1 => toDat ρ1 dv fun d ρ2 => itemsQ d fun ds => Q ds ρ2
theorem di_exp {tg : Expr} (he : DE X e te) : DI X tg e (iExp te) where
  run := fun ρ σ w Q R cf h k => wpi_of (pi_seq pe_star) (he.run ρ σ w _ _ cf h fun v dv ρ1 w1 q1 c1 e1 k1 => by
    obtain ⟨d, ρ2, w2, q2, c2, e2, hd, eH⟩ := toDat.run c1 e1 k1 q1
    rw [← eH]
    cases hd with
    | lst hs ha => exact ⟨_, rfl, .inl ⟨_, SqL.of (c2.ex _ _ hs), k _ ρ2 w2 _ q2 c2 e2 (yields_list hs ha)⟩⟩
    | tup hs ha => exact ⟨_, rfl, .inr ⟨_, SqT.of (c2.ex _ _ hs), k _ ρ2 w2 _ q2 c2 e2 (yields_tup hs ha)⟩⟩
    | _ => exact (show False from q2).elim)
  mono := fun ρ Q Q' h q => he.mono ρ _ _ (fun dv ρ1 q1 => toDat.mono (fun d ρ2 q2 => itemsQ.mono (fun ds => h _ _) q2) q1) q
/-- range -/
def rangeL (lo hi : Int) : List Int := (List.range (hi - lo).toNat).map fun (k : Nat) => lo + (k : Int)
theorem yields_range {K : PySem.W.Frag} {w : Wd} {lo : Int} {n : Nat} : Yields K (Itr lo n) (((List.range n).map fun (k : Nat) => lo + (k : Int)).map PyData.int) none w where
  stop := fun w' _ _ _ => by
    show n ≤ _
    simp
  go := fun i w' hi _ _ _ => by
    show i < n
    simpa using hi
  yld := fun i w' v H'' hi e ex _ y => by
    obtain ⟨eH, hv⟩ := y
    have hi : i < n := by simpa using hi
    refine ⟨.int (lo + i), w', ?_, eH.symm, rfl, Ext.refl _, fun _ _ c => c, by rw [hv]; exact .int _⟩
    rw [List.getElem?_map, List.getElem?_map, List.getElem?_range hi]
    rfl
def iRange1 (tr : DTa) : DTi := fun ρ Q => tr ρ fun ds ρ1 => match ds with
  | [.int j] => (-(2 ^ 62) ≤ j ∧ j < 2 ^ 62) ∧ Q ((rangeL 0 j).map PyData.int) ρ1
  | _ => False
def iRange2 (tr : DTa) : DTi := fun ρ Q => tr ρ fun ds ρ1 => match ds with
  | [.int i, .int j] => (-(2 ^ 62) ≤ i ∧ i < 2 ^ 62 ∧ -(2 ^ 62) ≤ j ∧ j < 2 ^ 62) ∧ Q ((rangeL i j).map PyData.int) ρ1
  | _ => False
theorem one_int {ds : List PD} {P : Int → Prop} (h : match ds with
    | [.int j] => P j
    | _ => False) : ∃ j, ds = [.int j] ∧ P j := by
  split at h
  · exact ⟨_, rfl, h⟩
  · exact h.elim
theorem two_ints {ds : List PD} {P : Int → Int → Prop} (h : match ds with
    | [.int i, .int j] => P i j
    | _ => False) : ∃ i j, ds = [.int i, .int j] ∧ P i j := by
  split at h
  · exact ⟨_, _, rfl, h⟩
  · exact h.elim
theorem di_range1 {tg : Expr} (hm : X.mg "range" = none) (ha : DA X [a] tr) (hg : Gl X "range" := by rfl) (hs : starEach [a] X.env = [(false, eval a X.env)] := by rfl) : DI X tg (.Call (.Name "range" p) [a] [] pos) (iRange1 tr) where
  run := fun ρ σ w Q R cf h k => wpi_of (pi_range1 hg hm pa_star0 hs) (ha.run ρ σ w _ _ cf h fun vs ds ρ1 w1 q1 c1 e1 hv => by
    obtain ⟨j, rfl, ⟨b1, b2⟩, q2⟩ := one_int q1
    cases hv with
    | cons hv1 hv2 =>
      cases hv1
      cases hv2
      refine ⟨j, rfl, b1, b2, k _ ρ1 w1 _ q2 c1 e1 ?_⟩
      unfold rangeL
      rw [Int.sub_zero]
      exact yields_range)
  mono := fun ρ Q Q' h q => ha.mono ρ _ _ (fun ds ρ1 q1 => by
    obtain ⟨j, rfl, b, q2⟩ := one_int q1
    exact ⟨b, h _ _ q2⟩) q
theorem di_range2 {tg : Expr} (hm : X.mg "range" = none) (ha : DA X [a, b] tr) (hg : Gl X "range" := by rfl) (hs : starEach [a, b] X.env = [(false, eval a X.env), (false, eval b X.env)] := by rfl) (hs2 : starEach [b] X.env = [(false, eval b X.env)] := by rfl) : DI X tg (.Call (.Name "range" p) [a, b] [] pos) (iRange2 tr) where
  run := fun ρ σ w Q R cf h k => wpi_of (pi_range2 hg hm pa_star0 hs hs2) (ha.run ρ σ w _ _ cf h fun vs ds ρ1 w1 q1 c1 e1 hv => by
    obtain ⟨i, j, rfl, b, q2⟩ := two_ints q1
    cases hv with
    | cons hv1 hv2 =>
      cases hv1
      cases hv2 with
      | cons hv1 hv2 =>
        cases hv1
        cases hv2
        exact ⟨i, j, rfl, b, k _ ρ1 w1 _ q2 c1 e1 yields_range⟩)
  mono := fun ρ Q Q' h q => ha.mono ρ _ _ (fun ds ρ1 q1 => by
    obtain ⟨i, j, rfl, b, q2⟩ := two_ints q1
    exact ⟨b, h _ _ q2⟩) q

/-! ### for -/
/-- Pv: what holds of the slots when some of the items are taken -/
structure forQ (ds : List PD) (g : DTg) (tb : DTS) (D : DEnds) (ρ1 : List Slot) : Prop where
  ex : ∃ Pv : Nat → List Slot → Prop, Pv 0 ρ1 ∧ (∀ i d ρ2, ds[i]? = some d → Pv i ρ2 → g d ρ2 fun ρ3 => tb { D with nx := Pv (i + 1), ct := Pv (i + 1), bk := D.nx } ρ3) ∧ ∀ ρ2, Pv ds.length ρ2 → D.nx ρ2
/-- over things xs that are written enc -/
theorem forQ.by {α : Type} (xs : List α) (enc : α → PD) {g : DTg} {tb : DTS} {D : DEnds} {ρ1 : List Slot} (I : List α → List Slot → Prop) (h0 : I [] ρ1)
    (hs : ∀ pre x ρ2, (∃ post, xs = pre ++ x :: post) → I pre ρ2 → g (enc x) ρ2 fun ρ3 => tb { D with nx := I (pre ++ [x]), ct := I (pre ++ [x]), bk := D.nx } ρ3) (hd : ∀ ρ2, I xs ρ2 → D.nx ρ2) : forQ (xs.map enc) g tb D ρ1 := by
  refine ⟨fun i ρ => I (xs.take i) ρ, h0, fun i d ρ2 hd hP => ?_, fun ρ2 hP => ?_⟩
  · rw [List.getElem?_map] at hd
    cases hx : xs[i]? with
    | none => rw [hx] at hd; cases hd
    | some x =>
      rw [hx] at hd
      cases hd
      have hi := (List.getElem?_eq_some_iff.mp hx).1
      have he := (List.getElem?_eq_some_iff.mp hx).2
      have := hs (xs.take i) x ρ2 ⟨xs.drop (i + 1), by
        have := List.take_append_drop i xs
        rw [List.drop_eq_getElem_cons hi, he] at this
        exact this.symm⟩ hP
      have e : xs.take (i + 1) = xs.take i ++ [x] := by rw [List.take_add_one, hx]; rfl
      show g (enc x) ρ2 fun ρ3 => tb { D with nx := I (xs.take (i + 1)), ct := I (xs.take (i + 1)), bk := D.nx } ρ3
      rw [e]
      exact this
  · rw [List.length_map, List.take_length] at hP
    exact hd ρ2 hP
def dFor (ti : DTi) (g : DTg) (tb : DTS) : DTS := fun D ρ => ti ρ fun ds ρ1 => forQ ds g tb D ρ1
theorem ds_for {tg iter : Expr} {ti : DTi} (hp : PassesOwn (model X.prog X.w) X.A X.env X.xe) (hc : X.calm = true) (hi : DI X tg iter ti) (hg : DG X tg g ts) (hb : DSs X sts t) (hs : ∀ x, foldedSetIterable iter X.env x = pure x := by intro _; rfl) :
    DS X (.For tg iter sts [] pos) (dFor ti g t) := ⟨fun ρ σ w D DD cf h l => by
  refine wps_of (ps_for hp hc pi_star pg_star pss_star hs) (hi.run ρ σ w _ _ cf h fun ds ρ1 w1 J q1 c1 e1 y => ?_)
  obtain ⟨Pv, h0, hstep, hend⟩ := q1
  refine ⟨fun i m σ' H' => m = ds.length - i ∧ i ≤ ds.length ∧ ∃ ρ' w', w'.H = H' ∧ Pv i ρ' ∧ Cfg X.K ρ' σ' w' ∧ Ext w1 w', ⟨ds.length, by simp, Nat.zero_le _, ρ1, w1, rfl, h0, c1, Ext.refl _⟩, ?_⟩
  rintro i m σ2 H2 ⟨rfl, hle, ρ2, w2, rfl, hP, c2, e2⟩
  by_cases hlt : i < ds.length
  · refine .inr ⟨y.go i w2 hlt e2 c2.ex (fun _ z => nomatch z), fun σ' H' => ∃ ρ' w', w'.H = H' ∧ Pv (i + 1) ρ' ∧ Cfg X.K ρ' σ' w' ∧ Ext w1 w', fun σ' H' ⟨ρ', w', a1, a2, a3, a4⟩ => ⟨ds.length - (i + 1), by omega, rfl, hlt, ρ', w', a1, a2, a3, a4⟩, fun v H3 hy => ?_⟩
    obtain ⟨d, w3, hd, eH, eF, e3, hc3, hdd⟩ := y.yld i w2 v H3 hlt e2 c2.ex (fun _ z => nomatch z) hy
    subst eH
    have c3 := hc3 _ _ c2
    refine hg.run ρ2 σ2 w3 v d _ _ c3 hdd (hstep i d ρ2 hd hP) fun ρ4 σ4 w4 q4 c4 e4 _ _ _ _ => ?_
    have e14 : Ext w1 w4 := (e2.trans e3).trans e4
    exact hb.run ρ4 σ4 w4 _ _ c4 q4 ⟨fun ρ' σ' w' q c e => ⟨ρ', w', rfl, q, c, e14.trans e⟩, fun v d ρ' σ' w' q c e hd => l.rt v d ρ' σ' w' q c ((e1.trans e14).trans e) hd,
      fun ρ' σ' w' q c e => l.nx ρ' σ' w' q c ((e1.trans e14).trans e), fun ρ' σ' w' q c e => ⟨ρ', w', rfl, q, c, e14.trans e⟩⟩
  · have e : i = ds.length := by omega
    subst e
    exact .inl ⟨y.stop w2 e2 c2.ex (fun _ z => nomatch z), l.nx ρ2 σ2 w2 (hend ρ2 hP) c2 (e1.trans e2)⟩⟩
end
end Cu

set_option Elab.async false
set_option linter.all false
set_option maxRecDepth 100000
set_option maxHeartbeats 4000000
namespace Cu
open PySem PySem.Spec PyProof.Rows L2

section
variable {X : Cx} {a b c e f elt tg iter : Expr} {es ifs : List Expr} {ta tb tc te : DT} {tr : DTa} {tt : DTt} {pos p : Pos} {x : Str} {st : Stmt} {rest sts sts2 : List Stmt} {t u : DTS} {g : DTg} {gs : DTgs} {ts us vs : List Nat} {ti : DTi}
/-! ### zip, enumerate (lists) -/
def zipD : List PD → List PD → List PD
  | x :: xs, y :: ys => .tuple [x, y] :: zipD xs ys
  | _, _ => []
theorem zipD_get : ∀ {xs ys : List PD} {i : Nat} {x y : PD}, xs[i]? = some x → ys[i]? = some y → (zipD xs ys)[i]? = some (.tuple [x, y])
  | [], _, _, _, _, h, _ => by simp at h
  | _ :: _, [], _, _, _, _, h => by simp at h
  | a :: xs, b :: ys, 0, x, y, h1, h2 => by
    simp at h1 h2
    subst h1 h2
    rfl
  | a :: xs, b :: ys, i + 1, x, y, h1, h2 => by
    show (zipD xs ys)[i]? = _
    exact zipD_get (by simpa using h1) (by simpa using h2)
theorem zipD_len : ∀ (xs ys : List PD), (zipD xs ys).length = min xs.length ys.length
  | [], _ => by simp [zipD]
  | _ :: _, [] => by simp [zipD]
  | _ :: xs, _ :: ys => by
    show (zipD xs ys).length + 1 = min (xs.length + 1) (ys.length + 1)
    rw [zipD_len xs ys]
    omega
theorem pair_new {K : PySem.W.Frag} {w' : Wd} {T : Addr} {x y : V} {d d' : PD} (ex : Ex w'.G w'.H) (hT : w'.H T = none) (h1 : Dd K w'.G x d) (h2 : Dd K w'.G y d') : ∃ w3 : Wd, w3.H = upd w'.H T (.tup [x, y]) ∧ w3.F = w'.F ∧ Ext w' w3 ∧ (∀ ρ σ, Cfg K ρ σ w' → Cfg K ρ σ w3) ∧ Dd K w3.G (.ref T) (.tuple [d, d']) :=
  ⟨⟨upd w'.G T (.tup [x, y]), upd w'.H T (.tup [x, y]), w'.F⟩, rfl, rfl, Ext.newP ex hT, fun ρ σ c => c.newP hT, .tup upd_same (.cons (dp_mono (Ex.new (ex.back hT)) _ _ h1) (.cons (dp_mono (Ex.new (ex.back hT)) _ _ h2) .nil))⟩
theorem yields_zipL {K : PySem.W.Frag} {w : Wd} {a b : Addr} {vs ws : List V} {ds ds' : List PD} (h : w.G a = some (.lst vs)) (hd : DdAll K w.G vs ds) (h' : w.G b = some (.lst ws)) (hd' : DdAll K w.G ws ds') : Yields K (Itz K a b) (zipD ds ds') none w where
  stop := fun w' e ex _ => ⟨vs, ws, SqL.of (ex _ _ (e.gg _ _ h)), SqL.of (ex _ _ (e.gg _ _ h')), by rw [zipD_len, dpa_len hd, dpa_len hd']; omega⟩
  go := fun i w' hi e ex _ => by
    rw [zipD_len] at hi
    obtain ⟨v, hv, _⟩ := dpa_get hd (List.getElem?_eq_getElem (show i < ds.length by omega))
    obtain ⟨v', hv', _⟩ := dpa_get hd' (List.getElem?_eq_getElem (show i < ds'.length by omega))
    exact ⟨vs, ws, v, v', SqL.of (ex _ _ (e.gg _ _ h)), SqL.of (ex _ _ (e.gg _ _ h')), hv, hv'⟩
  yld := fun i w' v H'' hi e ex _ y => by
    obtain ⟨T, x, y, rfl, hT, rfl, hx, hy⟩ := y
    obtain ⟨d, h1, h2⟩ := dpa_at hd (hx vs (SqL.of (ex _ _ (e.gg _ _ h))))
    obtain ⟨d', h3, h4⟩ := dpa_at hd' (hy ws (SqL.of (ex _ _ (e.gg _ _ h'))))
    obtain ⟨w3, q1, q2, q3, q4, q5⟩ := pair_new ex hT (dp_mono e.gg _ _ h2) (dp_mono e.gg _ _ h4)
    exact ⟨_, w3, zipD_get h1 h3, q1, q2, q3, q4, q5⟩
theorem yields_zipT {K : PySem.W.Frag} {w : Wd} {a b : Addr} {vs ws : List V} {ds ds' : List PD} (h : w.G a = some (.tup vs)) (hd : DdAll K w.G vs ds) (h' : w.G b = some (.tup ws)) (hd' : DdAll K w.G ws ds') : Yields K (RZ.ItzT K a b) (zipD ds ds') none w where
  stop := fun w' e ex _ => ⟨vs, ws, SqT.of (ex _ _ (e.gg _ _ h)), SqT.of (ex _ _ (e.gg _ _ h')), by rw [zipD_len, dpa_len hd, dpa_len hd']; omega⟩
  go := fun i w' hi e ex _ => by
    rw [zipD_len] at hi
    obtain ⟨v, hv, _⟩ := dpa_get hd (List.getElem?_eq_getElem (show i < ds.length by omega))
    obtain ⟨v', hv', _⟩ := dpa_get hd' (List.getElem?_eq_getElem (show i < ds'.length by omega))
    exact ⟨vs, ws, v, v', SqT.of (ex _ _ (e.gg _ _ h)), SqT.of (ex _ _ (e.gg _ _ h')), hv, hv'⟩
  yld := fun i w' v H'' hi e ex _ y => by
    obtain ⟨T, x, y, rfl, hT, rfl, hx, hy⟩ := y
    obtain ⟨d, h1, h2⟩ := dpa_at hd (hx vs (SqT.of (ex _ _ (e.gg _ _ h))))
    obtain ⟨d', h3, h4⟩ := dpa_at hd' (hy ws (SqT.of (ex _ _ (e.gg _ _ h'))))
    obtain ⟨w3, q1, q2, q3, q4, q5⟩ := pair_new ex hT (dp_mono e.gg _ _ h2) (dp_mono e.gg _ _ h4)
    exact ⟨_, w3, zipD_get h1 h3, q1, q2, q3, q4, q5⟩
def zipW : List PD → (List PD → Prop) → Prop
  | [.list xs, .list ys], k => k (zipD xs ys)
  | [.tuple xs, .tuple ys], k => k (zipD xs ys)
  | _, _ => False
theorem zipW_e {ds : List PD} {k : List PD → Prop} (h : zipW ds k) : ∃ xs ys, (ds = [.list xs, .list ys] ∨ ds = [.tuple xs, .tuple ys]) ∧ k (zipD xs ys) := by
  unfold zipW at h
  split at h
  · exact ⟨_, _, .inl rfl, h⟩
  · exact ⟨_, _, .inr rfl, h⟩
  · exact h.elim
def iZip2 (tr : DTa) : DTi := fun ρ Q => tr ρ fun ds ρ1 => zipW ds fun zs => Q zs ρ1
theorem di_zip {elts : List Expr} {kk : _} {tpos : Pos} (hm : X.mg "zip" = none) (ha : DA X [a, b] tr) (hg : Gl X "zip" := by rfl)
    (hs : starEach [a, b] X.env = (false, eval a X.env) :: starEach [b] X.env := by rfl) (hpl : (backTo pos (starEach [b] X.env)).any (·.1) = false := by rfl) : DI X (.Tuple elts kk tpos) (.Call (.Name "zip" p) [a, b] [] pos) (iZip2 tr) where
  run := fun ρ σ w Q R cf h k => wpi_of (RZ.pi_zipA hg hm pa_star0 hs hpl) (ha.run ρ σ w _ _ cf h fun us ds ρ1 w1 q1 c1 e1 hv => by
    obtain ⟨xs, ys, e, q⟩ := zipW_e q1
    rcases e with rfl | rfl
    · cases hv with
      | cons h1 h2 =>
        cases h2 with
        | cons h2 h3 =>
          cases h3
          cases h1 with
          | lst s1 d1 =>
            cases h2 with
            | lst s2 d2 => exact ⟨_, _, _, _, rfl, .inl ⟨SqL.of (c1.ex _ _ s1), SqL.of (c1.ex _ _ s2), k _ ρ1 w1 _ q c1 e1 (yields_zipL s1 d1 s2 d2)⟩⟩
    · cases hv with
      | cons h1 h2 =>
        cases h2 with
        | cons h2 h3 =>
          cases h3
          cases h1 with
          | tup s1 d1 =>
            cases h2 with
            | tup s2 d2 => exact ⟨_, _, _, _, rfl, .inr ⟨SqT.of (c1.ex _ _ s1), SqT.of (c1.ex _ _ s2), k _ ρ1 w1 _ q c1 e1 (yields_zipT s1 d1 s2 d2)⟩⟩)
  mono := fun ρ Q Q' h q => ha.mono ρ _ _ (fun ds ρ1 q1 => by
    obtain ⟨xs, ys, e, q⟩ := zipW_e q1
    rcases e with rfl | rfl
    · exact h _ _ q
    · exact h _ _ q) q
def enumD (n : Nat) : List PD → List PD
  | [] => []
  | x :: xs => .tuple [.int (n : Int), x] :: enumD (n + 1) xs
theorem enumD_get : ∀ {xs : List PD} {n i : Nat} {x : PD}, xs[i]? = some x → (enumD n xs)[i]? = some (.tuple [.int ((n + i : Nat) : Int), x])
  | [], _, _, _, h => by simp at h
  | a :: xs, n, 0, x, h => by
    simp at h
    subst h
    rfl
  | a :: xs, n, i + 1, x, h => by
    show (enumD (n + 1) xs)[i]? = _
    rw [enumD_get (n := n + 1) (i := i) (by simpa using h), show n + 1 + i = n + (i + 1) by omega]
theorem enumD_len : ∀ (xs : List PD) (n : Nat), (enumD n xs).length = xs.length
  | [], _ => rfl
  | x :: xs, n => by
    show (enumD (n + 1) xs).length + 1 = xs.length + 1
    rw [enumD_len xs]
theorem yields_enum {K : PySem.W.Frag} {w : Wd} {a : Addr} {vs : List V} {ds : List PD} (h : w.G a = some (.lst vs)) (hd : DdAll K w.G vs ds) : Yields K (Ite K a) (enumD 0 ds) none w where
  stop := fun w' e ex _ => ⟨vs, SqL.of (ex _ _ (e.gg _ _ h)), by rw [enumD_len, dpa_len hd]; exact Nat.le_refl _⟩
  go := fun i w' hi e ex _ => by
    rw [enumD_len] at hi
    obtain ⟨v, hv, _⟩ := dpa_get hd (List.getElem?_eq_getElem hi)
    exact ⟨vs, v, SqL.of (ex _ _ (e.gg _ _ h)), hv⟩
  yld := fun i w' v H'' hi e ex _ y => by
    obtain ⟨T, x, rfl, hT, rfl, hx⟩ := y
    obtain ⟨d, h1, h2⟩ := dpa_at hd (hx vs (SqL.of (ex _ _ (e.gg _ _ h))))
    obtain ⟨w3, q1, q2, q3, q4, q5⟩ := pair_new ex hT (.int (i : Int)) (dp_mono e.gg _ _ h2)
    exact ⟨_, w3, by rw [enumD_get h1, Nat.zero_add], q1, q2, q3, q4, q5⟩
def iEnum1 (tr : DTa) : DTi := fun ρ Q => tr ρ fun ds ρ1 => match ds with
  | [.list xs] => Q (enumD 0 xs) ρ1
  | _ => False
theorem one_list {ds : List PD} {P : List PD → Prop} (h : match ds with
    | [.list j] => P j
    | _ => False) : ∃ j, ds = [.list j] ∧ P j := by
  split at h
  · exact ⟨_, rfl, h⟩
  · exact h.elim
theorem di_enum {elts : List Expr} {kk : _} {tpos : Pos} (hm : X.mg "enumerate" = none) (ha : DA X [a] tr) (hg : Gl X "enumerate" := by rfl) (hs : starEach [a] X.env = [(false, eval a X.env)] := by rfl) : DI X (.Tuple elts kk tpos) (.Call (.Name "enumerate" p) [a] [] pos) (iEnum1 tr) where
  run := fun ρ σ w Q R cf h k => wpi_of (pi_enum hg hm pa_star0 hs) (ha.run ρ σ w _ _ cf h fun us ds ρ1 w1 q1 c1 e1 hv => by
    obtain ⟨xs, rfl, q⟩ := one_list q1
    cases hv with
    | cons h1 h2 =>
      cases h2
      cases h1 with
      | lst s1 d1 => exact ⟨_, _, rfl, SqL.of (c1.ex _ _ s1), k _ ρ1 w1 _ q c1 e1 (yields_enum s1 d1)⟩)
  mono := fun ρ Q Q' h q => ha.mono ρ _ _ (fun ds ρ1 q1 => by
    obtain ⟨xs, rfl, q⟩ := one_list q1
    exact h _ _ q) q

/-! ### comprehensions -/
def WpTs (X : Cx) (ifs : List Expr) (σ : L2.St) (H : Hp) (Q : Bool → Hp → Prop) : Prop := ∀ (pins : List (Addr × Obj)) (s : Shared), Inv X pins σ H s →
  wpAny (model X.prog X.w) X.A (forIn ifs true fun c r => if r = true then do let ok ← isTrue c X.env (eval c X.env); pure (ForInStep.yield ok) else pure (ForInStep.yield r)) (TP X pins σ Q) X.xe s
structure DP (X : Cx) (ifs : List Expr) (t : DTt) : Prop where
  run : ∀ (ρ : List Slot) (σ : L2.St) (w : Wd) (Q : Bool → List Slot → Prop) (QQ : Bool → Hp → Prop), Cfg X.K ρ σ w → t ρ Q →
    (∀ b ρ' w', Q b ρ' → Cfg X.K ρ' σ w' → Ext w w' → QQ b w'.H) → WpTs X ifs σ w.H QQ
  mono : ∀ (ρ : List Slot) (Q Q' : Bool → List Slot → Prop), (∀ b ρ', Q b ρ' → Q' b ρ') → t ρ Q → t ρ Q'
def tAll : DTt := fun ρ Q => Q true ρ
theorem dp_nil : DP X [] tAll := ⟨fun ρ σ w Q QQ cf h k pins s I => pts_nil.run pins s σ w.H QQ I (k true ρ w h cf (Ext.refl w)), fun _ _ _ h q => h _ _ q⟩
theorem dp_one (h : DTs X c tt) : DP X [c] tt := ⟨fun ρ σ w Q QQ cf q k pins s I => (pts_one pt_star).run pins s σ w.H QQ I (h.run ρ σ w Q QQ cf q k), h.mono⟩
theorem pts_star : PTs X ifs (WpTs X ifs) := ⟨fun pins s _ _ _ I h => h pins s I⟩
def wipeD (ρ : List Slot) : List Nat → List Slot
  | [] => ρ
  | v :: vs => (wipeD ρ vs).set v .no
theorem wipeD_len (ρ : List Slot) : ∀ vs : List Nat, (wipeD ρ vs).length = ρ.length
  | [] => rfl
  | v :: vs => by
    show ((wipeD ρ vs).set v .no).length = _
    rw [List.length_set, wipeD_len ρ vs]
theorem wipeD_get {ρ : List Slot} {i : Nat} : ∀ {vs : List Nat}, i ∉ vs → (wipeD ρ vs)[i]? = ρ[i]?
  | [], _ => rfl
  | v :: vs, h => by
    show ((wipeD ρ vs).set v .no)[i]? = _
    rw [List.getElem?_set_ne (fun z => h (by rw [z]; exact List.mem_cons_self)), wipeD_get fun z => h (List.mem_cons_of_mem _ z)]
theorem wipeD_in {ρ : List Slot} {i : Nat} {s : Slot} : ∀ {vs : List Nat}, i ∈ vs → (wipeD ρ vs)[i]? = some s → s = .no
  | [], h, _ => nomatch h
  | v :: vs, h, e => by
    have e : ((wipeD ρ vs).set v .no)[i]? = some s := e
    by_cases z : v = i
    · subst z; exact getElem?_set_same e
    · rw [List.getElem?_set_ne z] at e
      rcases List.mem_cons.mp h with y | y
      · exact absurd y.symm z
      · exact wipeD_in y e
theorem wipe_get {σ : L2.St} {i : Nat} : ∀ {vs : List Nat}, i ∉ vs → (wipe σ vs)[i]? = σ[i]?
  | [], _ => rfl
  | v :: vs, h => by
    show ((wipe σ vs).set v none)[i]? = _
    rw [List.getElem?_set_ne (fun z => h (by rw [z]; exact List.mem_cons_self)), wipe_get fun z => h (List.mem_cons_of_mem _ z)]
theorem wipe_in {σ : L2.St} {i : Nat} {s : Option V} : ∀ {vs : List Nat}, i ∈ vs → (wipe σ vs)[i]? = some s → s = none
  | [], h, _ => nomatch h
  | v :: vs, h, e => by
    have e : ((wipe σ vs).set v none)[i]? = some s := e
    by_cases z : v = i
    · subst z; exact getElem?_set_same e
    · rw [List.getElem?_set_ne z] at e
      rcases List.mem_cons.mp h with y | y
      · exact absurd y.symm z
      · exact wipe_in y e
theorem wipe_same {σ σ' : L2.St} {vs : List Nat} (h : SameBut vs (wipe σ vs) σ') : wipe σ' vs = wipe σ vs := by
  apply List.ext_getElem?
  intro i
  by_cases z : i ∈ vs
  · have hl : (wipe σ' vs).length = (wipe σ vs).length := by rw [wipe_length, h.1]
    cases e1 : (wipe σ' vs)[i]? with
    | none =>
      rw [List.getElem?_eq_none_iff] at e1
      rw [List.getElem?_eq_none (by omega)]
    | some s =>
      rw [wipe_in z e1]
      have hi : i < (wipe σ vs).length := by have := (List.getElem?_eq_some_iff.mp e1).1; omega
      have e2 := List.getElem?_eq_getElem hi
      rw [e2, wipe_in z e2]
  · rw [wipe_get z, h.2 i z]
/-- the slots of vs are forgotten -/
theorem Cfg.wiped {K : PySem.W.Frag} {ρ : List Slot} {σ : L2.St} {w : Wd} (c : Cfg K ρ σ w) {vs : List Nat} (vd : List Nat) (hsub : ∀ j, j ∈ vs → j ∈ vd) : Cfg K (wipeD ρ vd) (wipe σ vs) ⟨w.G, w.H, fun j => if j ∈ vd then [] else w.F j⟩ := by
  refine ⟨c.ex, fun j a hj => ?_, fun j k a hj hk => ?_, by rw [wipeD_len, wipe_length]; exact c.len, fun j t o hj ho => ?_⟩
  · have hj : a ∈ (if j ∈ vd then [] else w.F j) := hj
    by_cases z : j ∈ vd
    · rw [if_pos z] at hj; cases hj
    · rw [if_neg z] at hj; exact c.priv j a hj
  · have hj : a ∈ (if j ∈ vd then [] else w.F j) := hj
    have hk : a ∈ (if k ∈ vd then [] else w.F k) := hk
    by_cases z : j ∈ vd
    · rw [if_pos z] at hj; cases hj
    · by_cases y : k ∈ vd
      · rw [if_pos y] at hk; cases hk
      · rw [if_neg z] at hj; rw [if_neg y] at hk; exact c.disj j k a hj hk
  · by_cases z : j ∈ vd
    · rw [wipeD_in z hj]; trivial
    · rw [wipeD_get z] at hj
      rw [wipe_get fun y => z (hsub j y)] at ho
      have q2 := c.slot j t o hj ho
      have fe : (fun j => if j ∈ vd then [] else w.F j) j = w.F j := if_neg z
      show SlotOk K _ t o ((fun j => if j ∈ vd then [] else w.F j) j)
      rw [fe]
      cases t with
      | no => trivial
      | pub d => exact q2
      | lst ds => exact q2
      | own R => exact q2
theorem Ext.wiped {w0 w : Wd} (e : Ext w0 w) (vs : List Nat) : Ext w0 ⟨w.G, w.H, fun j => if j ∈ vs then [] else w.F j⟩ :=
  ⟨e.gg, e.keep, e.out, e.dom, fun j a hj => by
    have hj : a ∈ (if j ∈ vs then [] else w.F j) := hj
    by_cases z : j ∈ vs
    · rw [if_pos z] at hj; cases hj
    · rw [if_neg z] at hj; exact e.fps j a hj⟩
/-- behind a block: the slots of vs as they were ahead of it -/
def mergeD (ρ ρ' : List Slot) : List Nat → List Slot
  | [] => ρ'
  | v :: vs => (mergeD ρ ρ' vs).set v (ρ.getD v .no)
theorem mergeD_len (ρ ρ' : List Slot) : ∀ vs : List Nat, (mergeD ρ ρ' vs).length = ρ'.length
  | [] => rfl
  | v :: vs => by
    show ((mergeD ρ ρ' vs).set v _).length = _
    rw [List.length_set, mergeD_len ρ ρ' vs]
theorem mergeD_get {ρ ρ' : List Slot} {i : Nat} : ∀ {vs : List Nat}, i ∉ vs → (mergeD ρ ρ' vs)[i]? = ρ'[i]?
  | [], _ => rfl
  | v :: vs, h => by
    show ((mergeD ρ ρ' vs).set v _)[i]? = _
    rw [List.getElem?_set_ne (fun z => h (by rw [z]; exact List.mem_cons_self)), mergeD_get fun z => h (List.mem_cons_of_mem _ z)]
theorem mergeD_in {ρ ρ' : List Slot} {i : Nat} {s : Slot} : ∀ {vs : List Nat}, i ∈ vs → (mergeD ρ ρ' vs)[i]? = some s → s = ρ.getD i .no
  | [], h, _ => nomatch h
  | v :: vs, h, e => by
    have e : ((mergeD ρ ρ' vs).set v _)[i]? = some s := e
    by_cases z : v = i
    · subst z; exact getElem?_set_same e
    · rw [List.getElem?_set_ne z] at e
      rcases List.mem_cons.mp h with y | y
      · exact absurd y.symm z
      · exact mergeD_in y e
theorem Cfg.merged {K : PySem.W.Frag} {ρ ρ' : List Slot} {σ : L2.St} {w w' : Wd} {vs vd : List Nat} (hsub : ∀ j, j ∈ vs → j ∈ vd) (c : Cfg K ρ σ w) (c' : Cfg K ρ' (wipe σ vs) w') (e : Ext ⟨w.G, w.H, fun j => if j ∈ vd then [] else w.F j⟩ w') :
    Cfg K (mergeD ρ ρ' vd) σ ⟨w'.G, w'.H, fun j => if j ∈ vd then w.F j else w'.F j⟩ ∧ Ext w ⟨w'.G, w'.H, fun j => if j ∈ vd then w.F j else w'.F j⟩ := by
  have nin : ∀ {j : Nat} {a : Addr}, j ∈ vd → a ∈ w.F j → ∀ k, a ∉ (fun j => if j ∈ vd then [] else w.F j) k := fun {j a} hj ha k hk => by
    have hk : a ∈ (if k ∈ vd then [] else w.F k) := hk
    by_cases z : k ∈ vd
    · rw [if_pos z] at hk; cases hk
    · rw [if_neg z] at hk; exact z ((c.disj j k a ha hk) ▸ hj)
  have keep : ∀ {j : Nat} {a : Addr}, j ∈ vd → a ∈ w.F j → w'.H a = w.H a := fun {j a} hj ha => by
    cases q : w.H a with
    | none => exact absurd q (c.priv j a ha).2
    | some o => exact e.keep a o q (nin hj ha)
  refine ⟨⟨c'.ex, fun j a hj => ?_, fun j k a hj hk => ?_, by rw [mergeD_len, c'.len, wipe_length], fun j t o hj ho => ?_⟩, ⟨e.gg, fun a o ha hf => e.keep a o ha fun k hk => ?_, fun a ha hg hf => e.out a ha hg fun k hk => ?_, e.dom, fun j a hj => ?_⟩⟩
  · have hj : a ∈ (if j ∈ vd then w.F j else w'.F j) := hj
    by_cases z : j ∈ vd
    · rw [if_pos z] at hj
      refine ⟨e.out a (c.priv j a hj).2 (c.priv j a hj).1 (nin z hj), ?_⟩
      show w'.H a ≠ none
      rw [keep z hj]; exact (c.priv j a hj).2
    · rw [if_neg z] at hj; exact c'.priv j a hj
  · have hj : a ∈ (if j ∈ vd then w.F j else w'.F j) := hj
    have hk : a ∈ (if k ∈ vd then w.F k else w'.F k) := hk
    by_cases z : j ∈ vd
    · by_cases y : k ∈ vd
      · rw [if_pos z] at hj; rw [if_pos y] at hk; exact c.disj j k a hj hk
      · rw [if_pos z] at hj; rw [if_neg y] at hk
        exact absurd hk (e.nf (c.priv j a hj).2 (nin z hj) k)
    · by_cases y : k ∈ vd
      · rw [if_neg z] at hj; rw [if_pos y] at hk
        exact absurd hj (e.nf (c.priv k a hk).2 (nin y hk) j)
      · rw [if_neg z] at hj; rw [if_neg y] at hk; exact c'.disj j k a hj hk
  · by_cases z : j ∈ vd
    · have es := mergeD_in z hj
      have hjl : j < ρ.length := by rw [c.len]; exact (List.getElem?_eq_some_iff.mp ho).1
      have hρ : ρ[j]? = some t := by rw [List.getElem?_eq_getElem hjl, es, List.getD_eq_getElem?_getD, List.getElem?_eq_getElem hjl]; rfl
      have q2 := c.slot j t o hρ ho
      have fe : (fun j => if j ∈ vd then w.F j else w'.F j) j = w.F j := if_pos z
      show SlotOk K _ t o ((fun j => if j ∈ vd then w.F j else w'.F j) j)
      rw [fe]
      clear es
      cases t with
      | no => trivial
      | pub d => obtain ⟨v2, e2, hd2⟩ := q2; exact ⟨v2, e2, dp_mono e.gg _ _ hd2⟩
      | lst ds =>
        obtain ⟨l2, vs2, e2, ef2, hl2, hd2⟩ := q2
        exact ⟨l2, vs2, e2, ef2, (keep z (by rw [ef2]; exact List.mem_singleton.mpr rfl)).trans hl2, dpa_mono e.gg _ _ hd2⟩
      | own R =>
        obtain ⟨v2, e2, hr2⟩ := q2
        exact ⟨v2, e2, R.mono hr2 e.gg fun a ha => keep z ha⟩
    · rw [mergeD_get z] at hj
      have q2 := c'.slot j t o hj (by rw [wipe_get fun y => z (hsub j y)]; exact ho)
      have fe : (fun j => if j ∈ vd then w.F j else w'.F j) j = w'.F j := if_neg z
      show SlotOk K _ t o ((fun j => if j ∈ vd then w.F j else w'.F j) j)
      rw [fe]
      cases t with
      | no => trivial
      | pub d => exact q2
      | lst ds => exact q2
      | own R => exact q2
  · have hk : a ∈ (if k ∈ vd then [] else w.F k) := hk
    by_cases z : k ∈ vd
    · rw [if_pos z] at hk; cases hk
    · rw [if_neg z] at hk; exact hf k hk
  · have hk : a ∈ (if k ∈ vd then [] else w.F k) := hk
    by_cases z : k ∈ vd
    · rw [if_pos z] at hk; cases hk
    · rw [if_neg z] at hk; exact hf k hk
  · have hj : a ∈ (if j ∈ vd then w.F j else w'.F j) := hj
    by_cases z : j ∈ vd
    · rw [if_pos z] at hj; exact .inl ⟨j, hj⟩
    · rw [if_neg z] at hj
      rcases e.fps j a hj with ⟨k, hk⟩ | hn
      · have hk : a ∈ (if k ∈ vd then [] else w.F k) := hk
        by_cases y : k ∈ vd
        · rw [if_pos y] at hk; cases hk
        · rw [if_neg y] at hk; exact .inl ⟨k, hk⟩
      · exact .inr hn
end
end Cu

set_option Elab.async false
set_option linter.all false
set_option maxRecDepth 100000
set_option maxHeartbeats 4000000
namespace Cu
open PySem PySem.Spec PyProof.Rows L2

section
variable {X : Cx} {a b c e f elt tg iter : Expr} {es ifs : List Expr} {ta tb tc te : DT} {tr : DTa} {tt : DTt} {pos p : Pos} {x : Str} {st : Stmt} {rest sts sts2 : List Stmt} {t u : DTS} {g : DTg} {gs : DTgs} {ts us vs : List Nat} {ti : DTi}
/-- Pv: how many items are taken, what is made, the slots -/
structure lcQ (g : DTg) (tt : DTt) (te : DT) (vd : List Nat) (ds : List PD) (ρ1 : List Slot) (k : List PD → List Slot → Prop) : Prop where
  len : ds.length ≤ 16000000
  ex : ∃ Pv : Nat → List PD → List Slot → Prop, Pv 0 [] (wipeD ρ1 vd) ∧
    (∀ i acc d ρ2, ds[i]? = some d → Pv i acc ρ2 → g d ρ2 fun ρ3 => tt ρ3 fun b ρ4 => cnd b (te ρ4 fun dv ρ5 => toDat ρ5 dv fun x ρ6 => Pv (i + 1) (acc ++ [x]) (wipeD ρ6 vd)) (Pv (i + 1) acc (wipeD ρ4 vd))) ∧
    ∀ acc ρ2, acc.length ≤ ds.length → Pv ds.length acc ρ2 → k acc (mergeD ρ1 ρ2 vd)
theorem lcQ.mono {vd : List Nat} {ds : List PD} {ρ1 : List Slot} {k k' : List PD → List Slot → Prop} (h : ∀ acc ρ, k acc ρ → k' acc ρ) (q : lcQ g tt te vd ds ρ1 k) : lcQ g tt te vd ds ρ1 k' := by
  obtain ⟨hl, Pv, h0, h1, h2⟩ := q
  exact ⟨hl, Pv, h0, h1, fun acc ρ2 hl q => h _ _ (h2 acc ρ2 hl q)⟩
/-- what lies between a block's turns -/
structure LcAt (K : PySem.W.Frag) (ρ2 : List Slot) (σ : L2.St) (w1v w2 : Wd) (vs : List Nat) (D : Addr) (acc : List PD) : Prop where
  cf : Cfg K ρ2 (wipe σ vs) w2
  ext : Ext w1v w2
  at_ : ∃ va, w2.H D = some (.lst va) ∧ DdAll K w2.G va acc
  gn : w2.G D = none
  nf : ∀ i, D ∉ w2.F i
theorem dom_of {w : Wd} {a : Addr} {o : HO} (h : w.H a = some o) : w.H a ≠ none := by rw [h]; exact fun z => nomatch z
/-- the loop of a block, from an iterator that gives ds -/
theorem lc_run {K : PySem.W.Frag} {ρ1 : List Slot} {σ : L2.St} {w w1 : Wd} {ds : List PD} {src : Option Addr} {J : It} {k : List PD → List Slot → Prop} {QQ : VK} {gg : TG} {ttt : TT} {tte : TE} {vd : List Nat} (hsub : ∀ j, j ∈ vs → j ∈ vd)
    (hG : ∀ (ρ : List Slot) (σ : L2.St) (w : Wd) (v : V) (d : PD) (k : List Slot → Prop) (kk : L2.St → Hp → Prop), Cfg K ρ σ w → Dd K w.G v d → g d ρ k →
      (∀ ρ' σ' w', k ρ' → Cfg K ρ' σ' w' → Ext w w' → w'.H = w.H → w'.G = w.G → (∀ i, w'.F i = w.F i ∨ w'.F i = []) → SameBut vs σ σ' → kk σ' w'.H) → gg v σ w.H kk)
    (hT : ∀ (ρ : List Slot) (σ : L2.St) (w : Wd) (Q : Bool → List Slot → Prop) (QQ : Bool → Hp → Prop), Cfg K ρ σ w → tt ρ Q → (∀ b ρ' w', Q b ρ' → Cfg K ρ' σ w' → Ext w w' → QQ b w'.H) → ttt σ w.H QQ)
    (hE : ∀ (ρ : List Slot) (σ : L2.St) (w : Wd) (Q : DV → List Slot → Prop) (QQ : VK), Cfg K ρ σ w → te ρ Q → (∀ v dv ρ' w', Q dv ρ' → Cfg K ρ' σ w' → Ext w w' → ValOk K σ w w' v dv → QQ v w'.H) → tte σ w.H QQ)
    (hsrc : ∀ l, l ∈ src → w1.H l ≠ none ∧ ∀ k, l ∉ (fun j => if j ∈ vd then [] else w1.F j) k)
    (c1 : Cfg K ρ1 σ w1) (e1 : Ext w w1) (y : Yields K J ds src w1) (q : lcQ g tt te vd ds ρ1 k)
    (fin : ∀ acc ρ2 w2 v, k acc ρ2 → Cfg K ρ2 σ w2 → Ext w w2 → ValOk K σ w w2 v (.fr acc) → QQ v w2.H) :
    ∀ D, w1.H D = none → ∃ W : Nat → Nat → Hp → Prop, (∃ m, W 0 m (upd w1.H D (.lst []))) ∧ ∀ i m H, W i m H →
      (J.stop i H ∧ QQ (.ref D) H) ∨ (J.go i H ∧ ∃ Nx : Hp → Prop, (∀ H', Nx H' → ∃ m', m' < m ∧ W (i + 1) m' H') ∧ ∀ x H', J.yld i H x H' → gg x (wipe σ vs) H' fun σ2 H2 => wipe σ2 vs = wipe σ vs ∧ ttt σ2 H2 fun b H3 =>
        if b = true then tte σ2 H3 fun y H4 => ∃ acc, H4 D = some (.lst acc) ∧ acc.length < sizeLine ∧ Nx (upd H4 D (.lst (acc ++ [y]))) else Nx H3) := by
  intro D hD
  obtain ⟨hl, Pv, h0, hstep, hend⟩ := q
  let w1v : Wd := ⟨w1.G, w1.H, fun j => if j ∈ vd then [] else w1.F j⟩
  have c1v : Cfg K (wipeD ρ1 vd) (wipe σ vs) w1v := c1.wiped vd hsub
  have base : LcAt K (wipeD ρ1 vd) σ w1v ⟨w1.G, upd w1.H D (.lst []), fun j => if j ∈ vd then [] else w1.F j⟩ vs D [] :=
    ⟨c1v.new hD, Ext.new (w := w1v) hD, ⟨[], upd_same, .nil⟩, c1.ex.back hD, fun i hi => (c1v.priv i D hi).2 hD⟩
  have e1v : ∀ {w2 : Wd}, Ext w1v w2 → Ext w1 w2 := fun {w2} e => ⟨e.gg, fun a o ha hf => e.keep a o ha fun k hk => by
      have hk : a ∈ (if k ∈ vd then [] else w1.F k) := hk
      by_cases z : k ∈ vd
      · rw [if_pos z] at hk; cases hk
      · rw [if_neg z] at hk; exact hf k hk, fun a ha hg hf => e.out a ha hg fun k hk => by
      have hk : a ∈ (if k ∈ vd then [] else w1.F k) := hk
      by_cases z : k ∈ vd
      · rw [if_pos z] at hk; cases hk
      · rw [if_neg z] at hk; exact hf k hk, e.dom, fun j a hj => by
      rcases e.fps j a hj with ⟨k, hk⟩ | hn
      · have hk : a ∈ (if k ∈ vd then [] else w1.F k) := hk
        by_cases z : k ∈ vd
        · rw [if_pos z] at hk; cases hk
        · rw [if_neg z] at hk; exact .inl ⟨k, hk⟩
      · exact .inr hn⟩
  have srcs : ∀ {w2 : Wd}, Ext w1v w2 → ∀ l, l ∈ src → w2.H l = w1.H l := fun {w2} e l hl => by
    obtain ⟨h1, h2⟩ := hsrc l hl
    cases q : w1.H l with
    | none => exact absurd q h1
    | some o => exact e.keep l o q h2
  refine ⟨fun i m H => m = ds.length - i ∧ i ≤ ds.length ∧ ∃ ρ2 w2 acc, w2.H = H ∧ Pv i acc ρ2 ∧ acc.length ≤ i ∧ LcAt K ρ2 σ w1v w2 vs D acc, ⟨ds.length, by simp, Nat.zero_le _, _, _, [], rfl, h0, Nat.le_refl _, base⟩, ?_⟩
  rintro i m H ⟨rfl, hle, ρ2, w2, acc, rfl, hP, hacc, L⟩
  by_cases hlt : i < ds.length
  · refine .inr ⟨y.go i w2 hlt (e1v L.ext) L.cf.ex (srcs L.ext), fun H' => ∃ ρ3 w3 acc', w3.H = H' ∧ Pv (i + 1) acc' ρ3 ∧ acc'.length ≤ i + 1 ∧ LcAt K ρ3 σ w1v w3 vs D acc', fun H' ⟨ρ3, w3, acc', a1, a2, a3, a4⟩ => ⟨ds.length - (i + 1), by omega, rfl, hlt, ρ3, w3, acc', a1, a2, a3, a4⟩, fun v H3 hy => ?_⟩
    obtain ⟨d, w3, hd, eH, eF, e3, hc3, hdd⟩ := y.yld i w2 v H3 hlt (e1v L.ext) L.cf.ex (srcs L.ext) hy
    subst eH
    have c3 := hc3 _ _ L.cf
    obtain ⟨va, hva, hda⟩ := L.at_
    refine hG ρ2 (wipe σ vs) w3 v d _ _ c3 hdd (hstep i acc d ρ2 hd hP) fun ρ4 σ4 w4 q4 c4 e4 _ _ _ eS => ⟨wipe_same eS, ?_⟩
    refine hT ρ4 σ4 w4 _ _ c4 q4 fun b ρ5 w5 q5 c5 e5 => ?_
    have e25 : Ext w2 w5 := (e3.trans e4).trans e5
    cases b with
    | false =>
      refine iteF ⟨_, ⟨w5.G, w5.H, fun j => if j ∈ vd then [] else w5.F j⟩, acc, rfl, q5.f rfl, by omega, ?_, (L.ext.trans e25).wiped vd, ⟨va, e25.keep D _ hva L.nf, dpa_mono e25.gg _ _ hda⟩, e25.out D (dom_of hva) L.gn L.nf, fun j hj => ?_⟩
      · rw [← wipe_same eS]; exact c5.wiped vd hsub
      · have hj : D ∈ (if j ∈ vd then [] else w5.F j) := hj
        by_cases z : j ∈ vd
        · rw [if_pos z] at hj; cases hj
        · rw [if_neg z] at hj; exact e25.nf (dom_of hva) L.nf j hj
    | true =>
      refine iteT (hE ρ5 σ4 w5 _ _ c5 (q5.t rfl) fun v6 dv ρ6 w6 q6 c6 e6 k6 => ?_)
      obtain ⟨xd, ρ7, w7, q7, c7, e7, hd7, eH7⟩ := toDat.run c6 e6 k6 q6
      have e27 : Ext w2 w7 := e25.trans e7
      have hD7 : w7.H D = some (.lst va) := e27.keep D _ hva L.nf
      have hG7 : w7.G D = none := e27.out D (dom_of hva) L.gn L.nf
      have nf7 := e27.nf (dom_of hva) L.nf
      rw [← eH7]
      refine ⟨va, hD7, by rw [dpa_len hda]; exact app_line (by omega), _, ⟨w7.G, upd w7.H D (.lst (va ++ [v6])), fun j => if j ∈ vd then [] else w7.F j⟩, acc ++ [xd], rfl, q7, by rw [List.length_append]; exact Nat.succ_le_succ hacc, ?_, ?_, ⟨_, upd_same, dpa_app (dpa_mono e27.gg _ _ hda) (.cons hd7 .nil)⟩, hG7, fun j hj => ?_⟩
      · rw [← wipe_same eS]
        have c8 := c7.wiped vd hsub
        refine c8.step (Ex.refl _) (fun a o ha => ?_) fun j a hj => ⟨upd_ne fun z => ?_, (c8.priv j a hj).1⟩
        · show upd w7.H D _ a = some o
          rw [upd_ne (fun z => by rw [z, hG7] at ha; cases ha)]
          exact c7.ex a o ha
        · have hj : a ∈ (if j ∈ vd then [] else w7.F j) := hj
          by_cases y : j ∈ vd
          · rw [if_pos y] at hj; cases hj
          · rw [if_neg y] at hj; exact nf7 j (by rw [← z]; exact hj)
      · have e17 := (L.ext.trans e27).wiped vd
        have hD1 : w1v.H D = none := hD
        refine ⟨e17.gg, fun a o ha hf => ?_, e17.out, fun a ha => ?_, e17.fps⟩
        · show upd w7.H D _ a = some o
          rw [upd_ne (fun z => by rw [z, hD1] at ha; cases ha)]
          exact e17.keep a o ha hf
        · show upd w7.H D _ a ≠ none
          by_cases z : a = D
          · rw [z, upd_same]; exact fun z => nomatch z
          · rw [upd_ne z]; exact e17.dom a ha
      · have hj : D ∈ (if j ∈ vd then [] else w7.F j) := hj
        by_cases z : j ∈ vd
        · rw [if_pos z] at hj; cases hj
        · rw [if_neg z] at hj; exact nf7 j hj
  · have e : i = ds.length := by omega
    subst e
    refine .inl ⟨y.stop w2 (e1v L.ext) L.cf.ex (srcs L.ext), ?_⟩
    obtain ⟨cm, em⟩ := c1.merged hsub L.cf L.ext
    obtain ⟨va, hva, hda⟩ := L.at_
    refine fin acc _ ⟨w2.G, w2.H, fun j => if j ∈ vd then w1.F j else w2.F j⟩ (.ref D) (hend acc ρ2 hacc hP) cm (e1.trans em) ⟨D, va, rfl, e1.back hD, hva, L.gn, fun j hj => ?_, hda⟩
    have hj : D ∈ (if j ∈ vd then w1.F j else w2.F j) := hj
    by_cases z : j ∈ vd
    · rw [if_pos z] at hj; exact (c1.priv j D hj).2 hD
    · rw [if_neg z] at hj; exact L.nf j hj
end
end Cu

set_option Elab.async false
set_option linter.all false
set_option maxRecDepth 100000
set_option maxHeartbeats 4000000
namespace Cu
open PySem PySem.Spec PyProof.Rows L2

section
variable {X : Cx} {a b c e f elt tg iter : Expr} {es ifs : List Expr} {ta tb tc te : DT} {tr : DTa} {tt : DTt} {pos p : Pos} {x : Str} {st : Stmt} {rest sts sts2 : List Stmt} {t u : DTS} {g : DTg} {gs : DTgs} {ts us vs : List Nat} {ti : DTi} {scope : Scope} {own : List (Str × Nat)}
structure LcOk (X : Cx) (elt tg iter : Expr) (ifs : List Expr) (scope : Scope) (own : List (Str × Nat)) (t : DT) : Prop where
  ex : ∃ (wi : TI) (g : TG) (tt : TT) (te : TE), PI X tg iter wi ∧ (∀ (s : Shared) (H : Hp) (C : Addr) (cl : List (Str × Addr)) (fp : List Addr), PG (X.blk s H scope (compEnvC scope cl C X.env) fp) tg g) ∧
    (∀ (s : Shared) (H : Hp) (C : Addr) (cl : List (Str × Addr)) (fp : List Addr), PTs (X.blk s H scope (compEnvC scope cl C X.env) fp) ifs tt) ∧
    (∀ (s : Shared) (H : Hp) (C : Addr) (cl : List (Str × Addr)) (fp : List Addr), PE (X.blk s H scope (compEnvC scope cl C X.env) fp) elt te) ∧
    ∀ (ρ : List Slot) (σ : L2.St) (w : Wd) (Q : DV → List Slot → Prop) (QQ : VK), Cfg X.K ρ σ w → t ρ Q → (∀ v dv ρ' w', Q dv ρ' → Cfg X.K ρ' σ w' → Ext w w' → ValOk X.K σ w w' v dv → QQ v w'.H) → tLc wi g tt te (own.map (·.2)) σ w.H QQ
  mono : ∀ (ρ : List Slot) (Q Q' : DV → List Slot → Prop), (∀ dv ρ', Q dv ρ' → Q' dv ρ') → t ρ Q → t ρ Q'
def dLc (ti : DTi) (g : DTg) (tt : DTt) (te : DT) (vd : List Nat) : DT := fun ρ Q => ti ρ fun ds ρ1 => lcQ g tt te vd ds ρ1 fun acc ρ2 => Q (.fr acc) ρ2
def gAll (X : Cx) (scope : Scope) (tg : Expr) : TG := fun v σ H kk => ∀ (s : Shared) (H0 : Hp) (C : Addr) (cl : List (Str × Addr)) (fp : List Addr), WpG (X.blk s H0 scope (compEnvC scope cl C X.env) fp) tg v σ H kk
def tAllB (X : Cx) (scope : Scope) (ifs : List Expr) : TT := fun σ H kk => ∀ (s : Shared) (H0 : Hp) (C : Addr) (cl : List (Str × Addr)) (fp : List Addr), WpTs (X.blk s H0 scope (compEnvC scope cl C X.env) fp) ifs σ H kk
def eAll (X : Cx) (scope : Scope) (elt : Expr) : TE := fun σ H kk => ∀ (s : Shared) (H0 : Hp) (C : Addr) (cl : List (Str × Addr)) (fp : List Addr), Wp (X.blk s H0 scope (compEnvC scope cl C X.env) fp) elt σ H kk
theorem lc_ok (hi : DI X tg iter ti) (hg : ∀ (s : Shared) (H : Hp) (C : Addr) (cl : List (Str × Addr)) (fp : List Addr), DG (X.blk s H scope (compEnvC scope cl C X.env) fp) tg g (own.map (·.2)))
    (ht : ∀ (s : Shared) (H : Hp) (C : Addr) (cl : List (Str × Addr)) (fp : List Addr), DP (X.blk s H scope (compEnvC scope cl C X.env) fp) ifs tt)
    (he : ∀ (s : Shared) (H : Hp) (C : Addr) (cl : List (Str × Addr)) (fp : List Addr), DE (X.blk s H scope (compEnvC scope cl C X.env) fp) elt te) : LcOk X elt tg iter ifs scope own (dLc ti g tt te (own.map (·.2))) where
  ex := ⟨WpI X tg iter, gAll X scope tg, tAllB X scope ifs, eAll X scope elt, pi_star, fun s H C cl fp => ⟨fun pins s' σ H' v u Q I r h => h s H C cl fp pins s' u I r⟩, fun s H C cl fp => ⟨fun pins s' σ H' Q I h => h s H C cl fp pins s' I⟩,
    fun s H C cl fp => ⟨fun pins s' σ H' Q I h => h s H C cl fp pins s' I⟩, fun ρ σ w Q QQ cf h k => hi.run ρ σ w _ _ cf h fun ds ρ1 w1 J q1 c1 e1 y =>
      lc_run (K := X.K) (gg := gAll X scope tg) (ttt := tAllB X scope ifs) (tte := eAll X scope elt) (fun j hj => hj)
        (fun ρ σ w v d kk0 kk cf hd h l s H C cl fp => (hg s H C cl fp).run ρ σ w v d kk0 kk cf hd h l) (fun ρ σ w Q QQ cf h k s H C cl fp => (ht s H C cl fp).run ρ σ w Q QQ cf h k)
        (fun ρ σ w Q QQ cf h k s H C cl fp => (he s H C cl fp).run ρ σ w Q QQ cf h k) (fun l z => absurd z (by intro h; cases h)) c1 e1 y q1 fun acc ρ2 w2 v q c e kv => k v (.fr acc) ρ2 w2 q c e kv⟩
  mono := fun ρ Q Q' h q => hi.mono ρ _ _ (fun ds ρ1 q1 => q1.mono fun acc ρ2 => h _ _) q
/-- over a list of one's own, that the block does not read -/
def dLcO (i : Nat) (g : DTg) (tt : DTt) (te : DT) (vs : List Nat) : DT := fun ρ Q => lstQ ρ[i]? fun ds => lcQ g tt te (i :: vs) ds ρ fun acc ρ2 => Q (.fr acc) ρ2
theorem lc_okO (i : Nat) {py : Pos} (hN : X.N[i]? = some x := by rfl) (hv : Vis X.env.scope x := by first | exact Or.inl rfl | exact Or.inr (Or.inl rfl) | exact Or.inr (Or.inr rfl)) (hd : (x == ("__debug__" : Str)) = false := by decide)
    (hcd : (x == ("__classdict__" : Str)) = false := by decide) (hg : ∀ (s : Shared) (H : Hp) (C : Addr) (cl : List (Str × Addr)) (fp : List Addr), DG (X.blk s H scope (compEnvC scope cl C X.env) fp) tg g (own.map (·.2)))
    (ht : ∀ (s : Shared) (H : Hp) (C : Addr) (cl : List (Str × Addr)) (fp : List Addr), DP (X.blk s H scope (compEnvC scope cl C X.env) fp) ifs tt)
    (he : ∀ (s : Shared) (H : Hp) (C : Addr) (cl : List (Str × Addr)) (fp : List Addr), DE (X.blk s H scope (compEnvC scope cl C X.env) fp) elt te) : LcOk X elt tg (.Name x py) ifs scope own (dLcO i g tt te (own.map (·.2))) where
  ex := ⟨_, gAll X scope tg, tAllB X scope ifs, eAll X scope elt, pi_seq (pe_var hN hv hd hcd), fun s H C cl fp => ⟨fun pins s' σ H' v u Q I r h => h s H C cl fp pins s' u I r⟩, fun s H C cl fp => ⟨fun pins s' σ H' Q I h => h s H C cl fp pins s' I⟩,
    fun s H C cl fp => ⟨fun pins s' σ H' Q I h => h s H C cl fp pins s' I⟩, fun ρ σ w Q QQ cf h k => by
      obtain ⟨ds, h0, q⟩ := lstQ.elim h
      have hi : i < σ.length := by rw [← cf.len]; exact (List.getElem?_eq_some_iff.mp h0).1
      have hσ : σ[i]? = some σ[i] := List.getElem?_eq_getElem hi
      obtain ⟨l, va, eo, ef, hl, hd⟩ := cf.slot i _ _ h0 hσ
      have hm : l ∈ w.F i := by rw [ef]; exact List.mem_singleton.mpr rfl
      refine ⟨.ref l, by rw [hσ, eo], l, rfl, .inl ⟨va, SqL.of hl, ?_⟩⟩
      exact lc_run (K := X.K) (gg := gAll X scope tg) (ttt := tAllB X scope ifs) (tte := eAll X scope elt) (fun j hj => List.mem_cons_of_mem _ hj)
        (fun ρ σ w v d kk0 kk cf hd h l s H C cl fp => (hg s H C cl fp).run ρ σ w v d kk0 kk cf hd h l) (fun ρ σ w Q QQ cf h k s H C cl fp => (ht s H C cl fp).run ρ σ w Q QQ cf h k)
        (fun ρ σ w Q QQ cf h k s H C cl fp => (he s H C cl fp).run ρ σ w Q QQ cf h k) (fun l' hl' => by
          cases (show some l = some l' from hl')
          refine ⟨(cf.priv i l hm).2, fun j hj => ?_⟩
          have hj : l ∈ (if j ∈ i :: own.map (·.2) then [] else w.F j) := hj
          by_cases z : j ∈ i :: own.map (·.2)
          · rw [if_pos z] at hj; cases hj
          · rw [if_neg z] at hj
            exact z ((cf.disj j i l hj hm) ▸ List.mem_cons_self)) cf (Ext.refl w) (yields_own hl hd) q fun acc ρ2 w2 v q c e kv => k v (.fr acc) ρ2 w2 q c e kv⟩
  mono := fun ρ Q Q' h q => by
    have q : lstQ ρ[i]? _ := q
    obtain ⟨ds, h0, q⟩ := lstQ.elim q
    show lstQ ρ[i]? _
    rw [h0]
    exact q.mono fun acc ρ2 => h _ _
theorem de_lc {t : DT} (hc : X.calm = true) (hN : X.N.Nodup) (ok : BlkOk X.N X.env.scope scope own) (h : LcOk X elt tg iter ifs scope own t) (hs : ∀ x, foldedSetIterable iter X.env x = pure x := by intro _; rfl) : DE X (.ListComp elt [⟨tg, iter, ifs, 0⟩] scope pos) t := by
  obtain ⟨wi, g, tt, te, hi, hg, ht, he, run⟩ := h.ex
  exact ⟨fun ρ σ w Q QQ cf q k => wp_of (pe_lc hc hN hi ok hg ht he hs) (run ρ σ w Q QQ cf q k), h.mono⟩
/-- name = [..] on one line, the name a local -/
theorem ds_setLc {t : DT} (own' : Bool) (i : Nat) {y : Str} {py spos : Pos} (hc : X.calm = true) (hN : X.N.Nodup) (ok : BlkOk X.N X.env.scope scope own) (h : LcOk X elt tg iter ifs scope own t) (hy : X.N[i]? = some y := by rfl) (hyl : X.env.scope.names.lookup y = some .local := by rfl)
    (hsw : swapsWith (.ListComp elt [⟨tg, iter, ifs, 0⟩] scope pos) (some (.Name y py)) spos.line X.env = pure true := by exact sw_true rfl rfl rfl (by decide +kernel)) (hs : ∀ x, foldedSetIterable iter X.env x = pure x := by intro _; rfl) :
    DS X (.Assign [.Name y py] (.ListComp elt [⟨tg, iter, ifs, 0⟩] scope pos) spos) (dSet own' i t) := by
  obtain ⟨wi, g, tt, te, hi, hg, ht, he, run⟩ := h.ex
  exact ⟨fun ρ σ w D DD cf q l => wps_of (ps_setLc hc hN hy hyl hsw hi ok hg ht he hs) (run ρ σ w _ _ cf q fun v dv ρ1 w1 q1 c1 e1 k1 => by
    obtain ⟨ρ2, w2, q2, c2, e2, eH⟩ := storeW.run c1 e1 k1 q1
    show DD.nx (σ.set i (some v)) w1.H
    rw [← eH]
    exact l.nx ρ2 _ w2 q2 c2 e2)⟩

/-! ### while -/
/-- Pv: what holds at each test; mu: what falls -/
structure whQ (tt : DTt) (tb : DTS) (D : DEnds) (ρ : List Slot) : Prop where
  ex : ∃ Pv : Nat → List Slot → Prop, (∃ m, Pv m ρ) ∧ ∀ m ρ1, Pv m ρ1 → tt ρ1 fun b ρ2 => cnd b (tb { D with nx := fun ρ3 => ∃ m', m' < m ∧ Pv m' ρ3, ct := fun ρ3 => ∃ m', m' < m ∧ Pv m' ρ3, bk := D.nx } ρ2) (D.nx ρ2)
def dWhile (tt : DTt) (tb : DTS) : DTS := fun D ρ => whQ tt tb D ρ
theorem ds_while (hp : PassesOwn (model X.prog X.w) X.A X.env X.xe) (hc : DTs X c tt) (hb : DSs X sts t) : DS X (.While c sts [] pos) (dWhile tt t) := ⟨fun ρ σ w D DD cf h l => by
  obtain ⟨Pv, ⟨m0, h0⟩, hstep⟩ := h
  refine wps_of (ps_while hp pt_star pss_star) ⟨fun m σ' H' => ∃ ρ' w', w'.H = H' ∧ Pv m ρ' ∧ Cfg X.K ρ' σ' w' ∧ Ext w w', ⟨m0, ρ, w, rfl, h0, cf, Ext.refl w⟩, ?_⟩
  rintro m σ' H' ⟨ρ', w', rfl, hP, c', e'⟩
  refine hc.run ρ' σ' w' _ _ c' (hstep m ρ' hP) fun b ρ2 w2 q2 c2 e2 => ?_
  have e02 := e'.trans e2
  cases b with
  | true =>
    refine iteT ⟨fun σ3 H3 => ∃ m', m' < m ∧ ∃ ρ3 w3, w3.H = H3 ∧ Pv m' ρ3 ∧ Cfg X.K ρ3 σ3 w3 ∧ Ext w w3, fun σ3 H3 h3 => h3, hb.run ρ2 σ' w2 _ _ c2 (q2.t rfl) ⟨fun ρ3 σ3 w3 ⟨m', hm, hp⟩ c3 e3 => ⟨m', hm, ρ3, w3, rfl, hp, c3, e02.trans e3⟩,
      fun v d ρ3 σ3 w3 q c3 e3 hd => l.rt v d ρ3 σ3 w3 q c3 (e02.trans e3) hd, fun ρ3 σ3 w3 q c3 e3 => l.nx ρ3 σ3 w3 q c3 (e02.trans e3), fun ρ3 σ3 w3 ⟨m', hm, hp⟩ c3 e3 => ⟨m', hm, ρ3, w3, rfl, hp, c3, e02.trans e3⟩⟩⟩
  | false => exact iteF (l.nx ρ2 σ' w2 (q2.f rfl) c2 e02)⟩
end

/-! ### a def by its body -/
section
variable {P : Program} {w : World} {K : PySem.W.Frag} {mg : Str → Option Value} {base : Heap}
def start0 (ds : List PD) (n : Nat) : List Slot := ds.map Slot.pub ++ List.replicate (n - ds.length) .no
theorem start_slot {ds : List PD} {vs : List V} {N : List Str} {G : Hp} (h : DdAll K G vs ds) {w : Wd} (hw : w.G = G) : ∀ i s o, (start0 ds N.length)[i]? = some s → (L2.start N vs)[i]? = some o → SlotOk K w s o (w.F i) := fun i s o h1 h2 => by
  unfold start0 at h1
  unfold L2.start at h2
  by_cases hi : i < ds.length
  · rw [List.getElem?_append_left (by simpa using hi), List.getElem?_map] at h1
    rw [List.getElem?_append_left (by rw [List.length_map, dpa_len h]; exact hi), List.getElem?_map] at h2
    obtain ⟨v, hv, hd⟩ := dpa_get h (List.getElem?_eq_getElem hi)
    rw [List.getElem?_eq_getElem hi] at h1
    rw [hv] at h2
    cases h1
    cases h2
    exact ⟨v, rfl, by rw [hw]; exact hd⟩
  · rw [List.getElem?_append_right (by simpa using hi), List.getElem?_replicate] at h1
    split at h1
    · cases h1; trivial
    · cases h1
/-- a def of data: its body's reading, from the slots of its arguments -/
theorem fn_p {x qual : Str} {st : Stmt} {f : Addr} {fd : FuncData} {N ps : List Str} {k : Nat} {Φ : PhiP} (F : Fun K x qual st f fd) (S : FnScope N ps (defScope st)) (len : ∀ ds Q, Φ ds Q → ds.length = ps.length)
    (hbody : ∀ (cdv : Value) (A : Around) (outer : List Env) (s : Shared) (H : Hp) (E : XK), Room k (A.deeper (envOfC qual (defScope st) s.heap.objs.size f cdv)) →
      ∃ t, DSs (cxOf CX0 P w K mg base N qual (defScope st) f cdv A outer s H E).nox (defBody st) t ∧ ∀ (ds : List PD) (Q : PD → Prop), Φ ds Q → t { nx := fun _ => Q .none, rt := fun d _ => Q d } (start0 ds N.length)) : FnOk P w K mg base CX0 (k + 1) f fd ps (spP K Φ) := by
  refine F.ok S (fun vs H Q E h => ?_) (fun cdv A outer s H vs Q E hr h => ?_)
  · obtain ⟨G, ds, _, hd, q⟩ := h
    rw [dpa_len hd]; exact len _ _ q
  · obtain ⟨G, ds, ex, hd, q⟩ := h
    obtain ⟨t, ht, hq⟩ := hbody cdv A outer s H E hr
    have hl := len _ _ q
    have hN : ps.length ≤ N.length := by have := congrArg List.length S.pre; rw [List.length_take] at this; omega
    have cf : Cfg K (start0 ds N.length) (L2.start N vs) ⟨G, H, fun _ => []⟩ := ⟨ex, (fun _ _ z => nomatch z), (fun _ _ _ z => nomatch z), by
      unfold start0 L2.start
      rw [List.length_append, List.length_append, List.length_map, List.length_map, List.length_replicate, List.length_replicate, dpa_len hd], start_slot hd rfl⟩
    refine ⟨_, pss_star, ?_⟩
    refine ht.run (start0 ds N.length) (L2.start N vs) ⟨G, H, fun _ => []⟩ _ _ cf (hq ds _ q) ⟨fun ρ' σ' w' q c' e' => q .non w' e' c'.ex .non, fun v d ρ' σ' w' q c' e' hd => q v w' e' c'.ex hd, fun _ _ _ q => (show False from q).elim, fun _ _ _ q => (show False from q).elim⟩
/-- a def whose first argument is something of its caller's own -/
theorem fn_o {x qual : Str} {st : Stmt} {f : Addr} {fd : FuncData} {N ps : List Str} {k : Nat} {Φ : PhiO} (F : Fun K x qual st f fd) (S : FnScope N ps (defScope st)) (len : ∀ s ds Q, Φ s ds Q → ds.length + 1 = ps.length)
    (hbody : ∀ (cdv : Value) (A : Around) (outer : List Env) (s : Shared) (H : Hp) (E : XK), Room k (A.deeper (envOfC qual (defScope st) s.heap.objs.size f cdv)) →
      ∃ t, DSs (cxOf CX0 P w K mg base N qual (defScope st) f cdv A outer s H E).nox (defBody st) t ∧ ∀ (R : Res) (ds : List PD) (Q : PD → Res → Prop), Φ R ds Q →
        t { nx := fun ρ => ownQ ρ[0]? fun R' => R'.val = R.val ∧ Q .none R', rt := fun d ρ => ownQ ρ[0]? fun R' => R'.val = R.val ∧ Q d R' } (.own R :: start0 ds (N.length - 1))) : FnOk P w K mg base CX0 (k + 1) f fd ps (spO K Φ) := by
  refine F.ok S (fun vs H Q E h => ?_) (fun cdv A outer s H vs Q E hr h => ?_)
  · obtain ⟨G, fp, v0, vs', R, ds, rfl, _, _, _, hd, q⟩ := h
    rw [List.length_cons, dpa_len hd]; exact len _ _ _ q
  · obtain ⟨G, fp, v0, vs', R, ds, rfl, ex, hfp, hR, hd, q⟩ := h
    obtain ⟨t, ht, hq⟩ := hbody cdv A outer s H E hr
    have hl := len _ _ _ q
    have hN : ps.length ≤ N.length := by have := congrArg List.length S.pre; rw [List.length_take] at this; omega
    have eN : N.length - (vs'.length + 1) = N.length - 1 - vs'.length := by omega
    have est : L2.start N (v0 :: vs') = some v0 :: (vs'.map some ++ List.replicate (N.length - 1 - vs'.length) none) := by
      unfold L2.start
      rw [List.length_cons, eN]
      rfl
    have cf : Cfg K (.own R :: start0 ds (N.length - 1)) (L2.start N (v0 :: vs')) ⟨G, H, fun i => if i = 0 then fp else []⟩ := by
      refine ⟨ex, fun i a ha => ?_, fun i j a hi hj => ?_, ?_, fun i s o h1 h2 => ?_⟩
      · have ha : a ∈ (if i = 0 then fp else []) := ha
        by_cases z : i = 0
        · rw [if_pos z] at ha; exact hfp a ha
        · rw [if_neg z] at ha; cases ha
      · have hi : a ∈ (if i = 0 then fp else []) := hi
        have hj : a ∈ (if j = 0 then fp else []) := hj
        by_cases z : i = 0
        · by_cases y : j = 0
          · rw [z, y]
          · rw [if_neg y] at hj; cases hj
        · rw [if_neg z] at hi; cases hi
      · rw [est]
        unfold start0
        rw [List.length_cons, List.length_cons, List.length_append, List.length_append, List.length_map, List.length_map, List.length_replicate, List.length_replicate, dpa_len hd]
      · rw [est] at h2
        cases i with
        | zero =>
          cases h1
          cases h2
          exact ⟨v0, rfl, hR⟩
        | succ i =>
          have h1 : (start0 ds (N.length - 1))[i]? = some s := h1
          have h2 : (vs'.map some ++ List.replicate (N.length - 1 - vs'.length) none)[i]? = some o := h2
          unfold start0 at h1
          by_cases hi : i < ds.length
          · rw [List.getElem?_append_left (by simpa using hi), List.getElem?_map] at h1
            rw [List.getElem?_append_left (by rw [List.length_map, dpa_len hd]; exact hi), List.getElem?_map] at h2
            obtain ⟨v, hv, hdv⟩ := dpa_get hd (List.getElem?_eq_getElem hi)
            rw [List.getElem?_eq_getElem hi] at h1
            rw [hv] at h2
            cases h1
            cases h2
            exact ⟨v, rfl, hdv⟩
          · rw [List.getElem?_append_right (by simpa using hi), List.getElem?_replicate] at h1
            split at h1
            · cases h1; trivial
            · cases h1
    have fin : ∀ {d : PD} {v : V} {ρ' : List Slot} {σ' : L2.St} {w' : Wd}, (ownQ ρ'[0]? fun R' => R'.val = R.val ∧ ∀ v w' fp', Ext ⟨G, H, fun i => if i = 0 then fp else []⟩ w' → Ex w'.G w'.H → (∀ a, a ∈ fp' → w'.G a = none ∧ w'.H a ≠ none ∧ (a ∈ fp ∨ H a = none)) → R'.rel K v0 fp' w'.G w'.H → Dd K w'.G v d → Q v w'.H) →
        Cfg K ρ' σ' w' → Ext ⟨G, H, fun i => if i = 0 then fp else []⟩ w' → Dd K w'.G v d → Q v w'.H := fun {d v ρ' σ' w'} q c' e' hd => by
      obtain ⟨R', h0, ev, q⟩ := ownQ.elim q
      have hi : 0 < σ'.length := by rw [← c'.len]; exact (List.getElem?_eq_some_iff.mp h0).1
      obtain ⟨v1, _, hr⟩ := c'.slot 0 _ _ h0 (List.getElem?_eq_getElem hi)
      have e1 : v1 = v0 := by rw [R'.isv hr, ev, R.isv hR]
      subst e1
      refine q v w' (w'.F 0) e' c'.ex (fun a ha => ⟨(c'.priv 0 a ha).1, (c'.priv 0 a ha).2, ?_⟩) hr hd
      rcases e'.fps 0 a ha with ⟨j, hj⟩ | hn
      · have hj : a ∈ (if j = 0 then fp else []) := hj
        by_cases z : j = 0
        · rw [if_pos z] at hj; exact .inl hj
        · rw [if_neg z] at hj; cases hj
      · exact .inr hn
    refine ⟨_, pss_star, ?_⟩
    exact ht.run _ _ ⟨G, H, fun i => if i = 0 then fp else []⟩ _ _ cf (hq R ds _ q) ⟨fun ρ' σ' w' q c' e' => fin q c' e' .non, fun v d ρ' σ' w' q c' e' hd => fin q c' e' hd, fun _ _ _ q => (show False from q).elim, fun _ _ _ q => (show False from q).elim⟩
end
end Cu

set_option Elab.async false
set_option linter.all false
set_option maxRecDepth 100000
set_option maxHeartbeats 4000000
namespace Cu
open PySem PySem.Spec PyProof.Rows L2

theorem hu65 {A : Around} {k : Nat} (hr : Room k A) : A.units + 65 < cLine := by have := hr.un; omega
theorem b_len : bootBuiltins "len" = some (.builtin "len") := by decide +kernel
theorem b_abs : bootBuiltins "abs" = some (.builtin "abs") := by decide +kernel
theorem b_any : bootBuiltins "any" = some (.builtin "any") := by decide +kernel
theorem b_all : bootBuiltins "all" = some (.builtin "all") := by decide +kernel
theorem b_sum : bootBuiltins "sum" = some (.builtin "sum") := by decide +kernel
theorem b_sorted : bootBuiltins "sorted" = some (.builtin "sorted") := by decide +kernel
theorem b_min : bootBuiltins "min" = some (.builtin "min") := by decide +kernel
theorem b_max : bootBuiltins "max" = some (.builtin "max") := by decide +kernel
theorem b_int : bootBuiltins "int" = some (.type "int") := by decide +kernel
theorem b_list : bootBuiltins "list" = some (.type "list") := by decide +kernel
theorem b_tuple : bootBuiltins "tuple" = some (.type "tuple") := by decide +kernel
theorem b_str : bootBuiltins "str" = some (.type "str") := by decide +kernel
theorem b_bool : bootBuiltins "bool" = some (.type "bool") := by decide +kernel
theorem b_set : bootBuiltins "set" = some (.type "set") := by decide +kernel
def DefAt (K : PySem.W.Frag) (mg : Str → Option Value) (x : Str) (st : Stmt) (ps : List Str) : Prop := ∃ (f : Addr) (fd : FuncData), Fun K x x st f fd ∧ mg x = some (.ref f) ∧ Binds K fd ps []
theorem defAt_mk {K : PySem.W.Frag} {mg : Str → Option Value} {x : Str} {st : Stmt} {ps : List Str} {f : Addr} {fd : FuncData} (F : Fun K x x st f fd) (hm : mg x = some (.ref f))
    (h : ∀ (kV doc pm : Value) (an : Option Addr) (cdv ct : Value) (us : List Value), us.length = ps.length → bindArgs (PySem.W.fnOf x x (defArgs st) (defBody st) (defScope st) .none kV doc pm an cdv ct) ⟨us, []⟩ = pure (ps.zip us)) : DefAt K mg x st ps := ⟨f, fd, F, hm, F.binds h⟩

section
variable {X : Cx} {a b c e f elt tg iter : Expr} {es ifs : List Expr} {ta tb tc te : DT} {tr : DTa} {tt : DTt} {pos p : Pos} {x y z : Str} {st : Stmt} {rest sts sts2 : List Stmt} {t u : DTS}
/-! ### a < b < c -/
def dChain (op op' : CmpOp) (ta tb tc : DT) : DT := fun ρ Q => ta ρ fun x ρ1 => tb ρ1 fun y ρ2 => withD (rd ρ2 x) fun d => withD (rd ρ2 y) fun d' => cmpW op d d' fun r => withB (rd ρ2 r) fun k =>
  cnd k (tc ρ2 fun z ρ3 => withD (rd ρ3 y) fun d2 => withD (rd ρ3 z) fun d3 => cmpW op' d2 d3 fun r => Q r ρ3) (Q (.dat (.bool false)) ρ2)
theorem dChain_m {op op' : CmpOp} (ha : DE X a ta) (hb : DE X b tb) (hc : DE X c tc) : ∀ ρ Q Q', (∀ dv ρ', Q dv ρ' → Q' dv ρ') → dChain op op' ta tb tc ρ Q → dChain op op' ta tb tc ρ Q' := fun ρ Q Q' h q =>
  ha.mono ρ _ _ (fun x ρ1 q1 => hb.mono ρ1 _ _ (fun y ρ2 q2 => withD.mono (fun d q3 => withD.mono (fun d' q4 => cmpW_m op (fun r q5 => withB.mono (fun k q6 => cnd.mono
    (fun q7 => hc.mono ρ2 _ _ (fun z ρ3 q8 => withD.mono (fun d2 q9 => withD.mono (fun d3 q10 => cmpW_m op' (fun r => h r ρ3) q10) q9) q8) q7) (h _ _) q6) q5) q4) q3) q2) q1) q
theorem chain_run {op op' : CmpOp} (hu : X.A.units + 65 < cLine) (ha : DE X a ta) (hb : DE X b tb) (hc : DE X c tc) {ρ : List Slot} {σ : L2.St} {w : Wd} {Q : DV → List Slot → Prop} {QQ : VK} (cf : Cfg X.K ρ σ w) (h : dChain op op' ta tb tc ρ Q)
    (k : ∀ v dv ρ' w', Q dv ρ' → Cfg X.K ρ' σ w' → Ext w w' → ValOk X.K σ w w' v dv → QQ v w'.H) : tChain (OpSt X (compareOp op)) (OpSt X (compareOp op')) (Wp X a) (Wp X b) (Wp X c) σ w.H QQ :=
  ha.run ρ σ w _ _ cf h fun x dx ρ1 w1 q1 c1 e1 k1 => hb.run ρ1 σ w1 _ _ c1 q1 fun y dy ρ2 w2 q2 c2 e2 k2 => by
    obtain ⟨d, h1, q3⟩ := withD.elim q2
    obtain ⟨d', h2, q4⟩ := withD.elim q3
    refine cmp_ok hu op c2 (ShRd.of c2 k1 e2 h1) (ShRd.of c2 k2 (Ext.refl w2) h2) q4 fun v dv w' q c' e' k' => ?_
    obtain ⟨bb, h3, q5⟩ := withB.elim q
    refine ⟨bb, k'.isBl c' h3, ?_⟩
    have e02 := (e1.trans e2).trans e'
    cases bb with
    | true =>
      refine iteT (hc.run ρ2 σ w' _ _ c' (q5.t rfl) fun z dz ρ3 w3 q6 c3 e3 k3 => ?_)
      obtain ⟨d2, h4, q7⟩ := withD.elim q6
      obtain ⟨d3, h5, q8⟩ := withD.elim q7
      exact cmp_ok hu op' c3 (ShRd.of c3 k2 (e'.trans e3) h4) (ShRd.of c3 k3 (Ext.refl w3) h5) q8 fun v dv w4 q c4 e4 k4 => k v dv ρ3 w4 q c4 ((e02.trans e3).trans e4) (k4.pre (e02.trans e3))
    | false => exact iteF (k _ (.dat (.bool false)) ρ2 w' (q5.f rfl) c' e02 (.bl false))
theorem de_chain {op op' : CmpOp} (hu : X.A.units + 65 < cLine) (ha : DE X a ta) (hb : DE X b tb) (hc : DE X c tc) (hm : lastMarks [op, op'] [b, c] = false := by with_unfolding_all rfl) : DE X (.Compare a [op, op'] [b, c] pos) (dChain op op' ta tb tc) where
  run := fun ρ σ w Q QQ cf h k => wp_of (pe_chain (opst_ok X _) (opst_ok X _) pe_star pe_star pe_star hm) (chain_run hu ha hb hc cf h k)
  mono := dChain_m ha hb hc
theorem dt_chain {op op' : CmpOp} (hu : X.A.units + 65 < cLine) (ha : DE X a ta) (hb : DE X b tb) (hc : DE X c tc) (hm : lastMarks [op, op'] [b, c] = false := by with_unfolding_all rfl) : DTs X (.Compare a [op, op'] [b, c] pos) (tVal (dChain op op' ta tb tc)) where
  run := fun ρ σ w Q QQ cf h k => wpt_of (pt_chain (opst_ok X _) (opst_ok X _) pe_star pe_star pe_star hm) (chain_run hu ha hb hc cf h fun v dv ρ' w' q c' e' k' => by
    obtain ⟨bb, h1, q2⟩ := withB.elim q
    exact ⟨bb, k'.isBl c' h1, k bb ρ' w' q2 c' e'⟩)
  mono := fun ρ Q Q' h q => dChain_m ha hb hc ρ _ _ (fun x ρ1 q1 => withB.mono (fun b => h b ρ1) q1) q

/-! ### a, b = e1, e2 -/
def noSlt : DV → Prop → Prop
  | .slt _, _ => False
  | _, p => p
theorem noSlt.elim {dv : DV} {p : Prop} (h : noSlt dv p) : p ∧ ∀ i, dv ≠ .slt i := by
  cases dv with
  | dat d => exact ⟨h, fun i z => nomatch z⟩
  | fr d => exact ⟨h, fun i z => nomatch z⟩
  | slt i => exact (show False from h).elim
theorem ValOk.other {K : PySem.W.Frag} {σ σ' : L2.St} {w w' : Wd} {v : V} {dv : DV} (k : ValOk K σ w w' v dv) (h : ∀ i, dv ≠ .slt i) : ValOk K σ' w w' v dv := by
  cases dv with
  | dat d => exact k
  | fr ds => exact k
  | slt i => exact absurd rfl (h i)
def dPar (o1 o2 : Bool) (i j : Nat) (ta tb : DT) : DTS := fun D ρ => ta ρ fun x ρ1 => tb ρ1 fun y ρ2 => noSlt x (storeW o2 j ρ2 y fun ρ3 => storeW o1 i ρ3 x D.nx)
theorem ds_par (o1 o2 : Bool) (i j : Nat) {px py pt : Pos} {kt k2 pt2} (hc : X.calm = true) (hN : X.N.Nodup) (ha : DE X a ta) (hb : DE X b tb) (hi : X.N[i]? = some x := by rfl) (hj : X.N[j]? = some y := by rfl) (hij : i ≠ j := by decide)
    (hx : X.env.scope.names.lookup x = some .local := by rfl) (hy : X.env.scope.names.lookup y = some .local := by rfl) (hw : swappedStores [.Tuple [.Name x px, .Name y py] kt pt] (.Tuple [a, b] k2 pt2) X.env = pure (some [x, y]) := by rfl)
    (hs : swapsWithSole [.Tuple [.Name x px, .Name y py] kt pt] (.Tuple [a, b] k2 pt2) pos.line X.env = pure false := by rfl) (he1 : starEach [a, b] X.env = (false, eval a X.env) :: starEach [b] X.env := by rfl) (he2 : starEach [b] X.env = (false, eval b X.env) :: starEach [] X.env := by rfl) :
    DS X (.Assign [.Tuple [.Name x px, .Name y py] kt pt] (.Tuple [a, b] k2 pt2) pos) (dPar o1 o2 i j ta tb) := ⟨fun ρ σ w D DD cf h l => wps_of (ps_par hc hN hi hj hij hx hy (pa_cons pe_star (pa_cons pe_star pa_nil he2) he1) hw hs)
  (ha.run ρ σ w _ _ cf h fun v1 dv1 ρ1 w1 q1 c1 e1 k1 => hb.run ρ1 σ w1 _ _ c1 q1 fun v2 dv2 ρ2 w2 q2 c2 e2 k2 => by
    obtain ⟨q3, hns⟩ := noSlt.elim q2
    obtain ⟨ρ3, w3, q4, c3, e3, eH3⟩ := storeW.run c2 e2 k2 q3
    obtain ⟨ρ4, w4, q5, c4, e4, eH4⟩ := storeW.run c3 (e1.trans e3) ((k1.other hns).mono e3) q4
    refine ⟨v1, v2, rfl, ?_⟩
    rw [List.set_comm _ _ hij, ← eH3, ← eH4]
    exact l.nx ρ4 _ w4 q5 c4 e4)⟩
/-- the same, where a pair is made and unpacked -/
theorem ds_parC (o1 o2 : Bool) (i j : Nat) {px py pt : Pos} {kt k2 pt2} (hc : X.calm = true) (hN : X.N.Nodup) (ha : DE X a ta) (hb : DE X b tb) (hi : X.N[i]? = some x := by rfl) (hj : X.N[j]? = some y := by rfl) (hij : i ≠ j := by decide)
    (hx : Loc X.env.scope x := by first | exact Or.inl rfl | exact Or.inr rfl) (hy : Loc X.env.scope y := by first | exact Or.inl rfl | exact Or.inr rfl) (hfx : X.fn x = true ∨ X.env.scope.names.lookup x = some .local := by first | exact .inl rfl | exact .inr rfl) (hfy : X.fn y = true ∨ X.env.scope.names.lookup y = some .local := by first | exact .inl rfl | exact .inr rfl)
    (hs : swapsWithSole [.Tuple [.Name x px, .Name y py] kt pt] (.Tuple [a, b] k2 pt2) pos.line X.env = pure false := by rfl) (hw : swappedStores [.Tuple [.Name x px, .Name y py] kt pt] (.Tuple [a, b] k2 pt2) X.env = pure none := by rfl)
    (h1 : (assignEach [.Tuple [.Name x px, .Name y py] kt pt] X.env).map (·.2) = [assign (.Tuple [.Name x px, .Name y py] kt pt) X.env] := by rfl) (hn : (assignEach [.Name x px, .Name y py] X.env).length = 2 := by rfl) (hst : (assignEach [.Name x px, .Name y py] X.env).findIdx? (·.1) = none := by rfl)
    (hs1 : (assignEach (.Name x px :: [.Name y py]) X.env).map (·.2) = assign (.Name x px) X.env :: (assignEach [.Name y py] X.env).map (·.2) := by rfl) (hs2 : (assignEach (.Name y py :: []) X.env).map (·.2) = assign (.Name y py) X.env :: (assignEach [] X.env).map (·.2) := by rfl)
    (he1 : starEach [a, b] X.env = (false, eval a X.env) :: starEach [b] X.env := by rfl) (he2 : starEach [b] X.env = (false, eval b X.env) :: starEach [] X.env := by rfl) :
    DS X (.Assign [.Tuple [.Name x px, .Name y py] kt pt] (.Tuple [a, b] k2 pt2) pos) (dPar o1 o2 i j ta tb) := ⟨fun ρ σ w D DD cf h l =>
  wps_of (ps_asg (pe_tup (pa_cons pe_star (pa_cons pe_star pa_nil he2) he1)) (pg_tup hc (pgs_cons (pg_name hN hi hx hfx) (pgs_cons (pg_name hN hj hy hfy) pgs_nil hs2) hs1) hn hst) hs hw h1)
  (ha.run ρ σ w _ _ cf h fun v1 dv1 ρ1 w1 q1 c1 e1 k1 => hb.run ρ1 σ w1 _ _ c1 q1 fun v2 dv2 ρ2 w2 q2 c2 e2 k2 => by
    refine ⟨by show (2 : Nat) ≤ sizeLine; decide, fun tp htp => ?_⟩
    have c2' := c2.new (o := .tup [v1, v2]) htp
    have e2' : Ext w1 ⟨w2.G, upd w2.H tp (.tup [v1, v2]), w2.F⟩ := e2.trans (Ext.new htp)
    obtain ⟨q3, hns⟩ := noSlt.elim q2
    obtain ⟨ρ3, w3, q4, c3, e3, eH3⟩ := storeW.run c2' e2' (k2.mono (Ext.new htp)) q3
    obtain ⟨ρ4, w4, q5, c4, e4, eH4⟩ := storeW.run c3 (e1.trans e3) ((k1.other hns).mono e3) q4
    refine ⟨tp, [v1, v2], rfl, SqT.of upd_same, rfl, v1, [v2], rfl, v2, [], rfl, rfl, ?_⟩
    rw [List.set_comm _ _ hij]
    have eH : w4.H = upd w2.H tp (.tup [v1, v2]) := eH4.trans eH3
    rw [← eH]
    exact l.nx ρ4 _ w4 q5 c4 e4)⟩
def dPar3 (o1 o2 o3 : Bool) (i j m : Nat) (ta tb tc : DT) : DTS := fun D ρ => ta ρ fun x ρ1 => tb ρ1 fun y ρ2 => tc ρ2 fun z ρ3 => noSlt x (noSlt y (storeW o3 m ρ3 z fun ρ4 => storeW o2 j ρ4 y fun ρ5 => storeW o1 i ρ5 x D.nx))
theorem ds_par3 (o1 o2 o3 : Bool) (i j m : Nat) {px py pz pt : Pos} {kt k2 pt2} (hc : X.calm = true) (hN : X.N.Nodup) (ha : DE X a ta) (hb : DE X b tb) (hcc : DE X c tc) (hi : X.N[i]? = some x := by rfl) (hj : X.N[j]? = some y := by rfl) (hk : X.N[m]? = some z := by rfl) (hij : i ≠ j := by decide) (him : i ≠ m := by decide) (hjm : j ≠ m := by decide)
    (hx : X.env.scope.names.lookup x = some .local := by rfl) (hy : X.env.scope.names.lookup y = some .local := by rfl) (hz : X.env.scope.names.lookup z = some .local := by rfl) (hw : swappedStores [.Tuple [.Name x px, .Name y py, .Name z pz] kt pt] (.Tuple [a, b, c] k2 pt2) X.env = pure (some [x, y, z]) := by rfl)
    (hs : swapsWithSole [.Tuple [.Name x px, .Name y py, .Name z pz] kt pt] (.Tuple [a, b, c] k2 pt2) pos.line X.env = pure false := by rfl) (he1 : starEach [a, b, c] X.env = (false, eval a X.env) :: starEach [b, c] X.env := by rfl) (he2 : starEach [b, c] X.env = (false, eval b X.env) :: starEach [c] X.env := by rfl) (he3 : starEach [c] X.env = (false, eval c X.env) :: starEach [] X.env := by rfl) :
    DS X (.Assign [.Tuple [.Name x px, .Name y py, .Name z pz] kt pt] (.Tuple [a, b, c] k2 pt2) pos) (dPar3 o1 o2 o3 i j m ta tb tc) := ⟨fun ρ σ w D DD cf h l => wps_of (ps_par3 hc hN hi hj hk hij him hjm hx hy hz (pa_cons pe_star (pa_cons pe_star (pa_cons pe_star pa_nil he3) he2) he1) hw hs)
  (ha.run ρ σ w _ _ cf h fun v1 dv1 ρ1 w1 q1 c1 e1 k1 => hb.run ρ1 σ w1 _ _ c1 q1 fun v2 dv2 ρ2 w2 q2 c2 e2 k2 => hcc.run ρ2 σ w2 _ _ c2 q2 fun v3 dv3 ρ3 w3 q3 c3 e3 k3 => by
    obtain ⟨q4, hn1⟩ := noSlt.elim q3
    obtain ⟨q5, hn2⟩ := noSlt.elim q4
    obtain ⟨ρ4, w4, q6, c4, e4, eH4⟩ := storeW.run c3 e3 k3 q5
    obtain ⟨ρ5, w5, q7, c5, e5, eH5⟩ := storeW.run c4 (e2.trans e4) ((k2.other hn2).mono e4) q6
    obtain ⟨ρ6, w6, q8, c6, e6, eH6⟩ := storeW.run c5 (e1.trans e5) ((k1.other hn1).mono e5) q7
    refine ⟨v1, v2, v3, rfl, ?_⟩
    have es : ((σ.set i (some v1)).set j (some v2)).set m (some v3) = ((σ.set m (some v3)).set j (some v2)).set i (some v1) := by
      rw [List.set_comm (some v1) (some v2) hij, List.set_comm (some v1) (some v3) him, List.set_comm (some v2) (some v3) hjm]
    rw [es, ← eH4, ← eH5, ← eH6]
    exact l.nx ρ6 _ w6 q8 c6 e6)⟩
end
end Cu

set_option Elab.async false
set_option linter.all false
set_option maxRecDepth 100000
set_option maxHeartbeats 8000000
/-! set(a list of ints), sorted of it -/
namespace Cu
open PySem PySem.Spec PyProof.Rows L2

section
variable {P : Program} {w : World} {A : Around} {E : Value → Shared → Prop} {s : Shared}
abbrev bareSet (w : World) : Obj := { cls := .type "set", dict := none, data := .set #[] 0 (.fresh 0 0 (!w.params.followText "set-order")) }
theorem set_of_ints {l : Addr} {items : Array Value} (ns : List Int) {Q : Value → Shared → Prop} (noneHandled : A.handled = none) (isl : s.heap.IsList l items) (theInts : IntsAre items.toList ns) (small : ns.length + 1 < scanBound)
    (then_ : ∀ (h' : Heap) (tk c : Nat), SetR w h' s.heap.objs.size (fun j => decide (j ∈ ns)) c → c ≤ ns.length → (∀ b o, s.heap.get? b = some o → h'.get? b = some o) → Q (.ref s.heap.objs.size) { s with heap := h', toks := tk }) :
    wpAny (model P w) A (call (.type "set") [.ref l]) Q E s := by
  have many : items.size = ns.length := by
    have e := IntsAre.length theInts
    rwa [Array.length_toList] at e
  obtain ⟨cc, rest, mroIs⟩ := F.called_set.mro
  have isMade := F.called_set.made
  have isSub := F.called_set.sub
  refine wpAny_call (codeAny_of_tree ?_)
  show wpAny _ _ (callAny (.type "set") _) _ _ _
  refine wpAny_pure ⟨Code.quiet_builtin _ (by decide +kernel), codeAny_builtin F.entry_type_call ?_⟩
  rw [Around.under_plain (weight_type_call_type "set" [.ref l] []) rfl]
  have a1 := F.called_set.notType
  have a2 := F.called_set.canCreate
  have a3 := F.typeCall_set_1 (.ref l)
  repeat (any_goals (first | assumption | wp_step))
  refine codeAny_mono (code_set_led1 (.ref l) (E := E) (Q₁ := fun obj t => obj = .ref s.heap.objs.size ∧ t = { s with heap := s.heap.push (bareSet w) }) ⟨rfl, rfl⟩) fun r t hr => ?_
  cases r with
  | error e => exact hr
  | ok fl =>
    cases fl with
    | ret obj =>
      obtain ⟨rfl, rfl⟩ := hr
      have newAt : (s.heap.push (bareSet w)).get? s.heap.objs.size = some (bareSet w) := Heap.get?_push_size _ rfl
      have newIs : Shared.TypeIs { s with heap := s.heap.push (bareSet w) } (.ref s.heap.objs.size) "set" := ⟨_, newAt, rfl⟩
      have b1 := F.called_set.init.lookup
      have b2 := F.called_set.init.bind (.ref s.heap.objs.size)
      repeat (any_goals (first | assumption | wp_step))
      refine codeAny_mono (codeAny_call_builtin (R := wants (fun r t => r = .none ∧ ∃ h' tk c, t = { s with heap := h', toks := tk } ∧ SetR w h' s.heap.objs.size (fun j => decide (j ∈ ns)) c ∧ c ≤ ns.length ∧
          (∀ b o, s.heap.get? b = some o → h'.get? b = some o)) E) F.called_set.init.plain F.entry_set_init (check_set_init_1 newIs ?_)) fun r2 t2 hr2 => ?_
      · obtain ⟨ob, atL, clsL, nL, datL⟩ := isl
        obtain ⟨k1, k2, k3, k4⟩ := ob
        simp only at clsL datL
        subst clsL; subst datL
        have there : (s.heap.push (bareSet w)).get? l = some { cls := .type "list", dict := k2, data := .seq items nL, slots := k4 } := Heap.get?_push_of_some _ atL
        have n1 := F.sub_list_set
        have n2 := F.sub_list_frozenset
        have n3 : (Value.type "list" == Value.type "dict") = false := by decide
        have stillL : (s.heap.push (bareSet w)).IsList l items := ⟨_, there, rfl, nL, rfl⟩
        unfold Builtin.«set.__init__» noKeywords Builtin.Frozenset.updateFrom
        generalize iterIs : pyIter = theIter
        wp_walk
        subst iterIs
        refine wpAny_pyIter_list stillL ?_
        refine wpAny_bind (wpAny_runValue ?_)
        have lBelow : l < s.heap.objs.size := Heap.lt_size atL
        have deep : A.in1.in1.in1.handled = none := by simp [noneHandled]
        have apart : l ≠ (s.heap.push (bareSet w)).objs.size := by
          rw [Heap.size_push]; exact Nat.ne_of_lt (Nat.lt_succ_of_lt lBelow)
        have outside : s.heap.objs.size ∉ [(s.heap.push (bareSet w)).objs.size, l] := by
          rw [Heap.size_push]
          intro z
          rcases List.mem_cons.mp z with z | z
          · exact absurd z (Nat.ne_of_lt (Nat.lt_succ_self _))
          · exact absurd (List.mem_singleton.mp z) (Nat.ne_of_gt lBelow)
        have each : ∀ (i : Nat) (v : Value), items[i]? = some v → ∃ k t, ns[i]? = some k ∧ v = .int k t := fun i v hv => by
          have inn : i < ns.length := by rw [← many]; exact (Array.getElem?_eq_some_iff.mp hv).1
          obtain ⟨t, e⟩ := PyProof.Rows.IntsAre.int_at theInts i v (by rw [Array.getElem?_toList]; exact hv)
          exact ⟨ns[i], t, List.getElem?_eq_getElem inn, by rw [e, List.getD_eq_getElem?_getD, List.getElem?_eq_getElem inn] <;> rfl⟩
        refine set_update_ints ((Walks.list deep _ l apart items).toS) s.heap.objs.size
          outside ns many small each (items.size - 0) 0 _ (by omega) (Nat.zero_le _)
          ⟨⟨_, Heap.get?_push_size _ rfl, rfl, rfl⟩, (stillL.push _)⟩ ?first ?last
        case first => exact ⟨0, Nat.le_refl 0, setR_new_at (Heap.get?_push_of_some _ newAt)⟩
        case last =>
          intro t' c' moved hc' is'
          obtain ⟨h', g2, d', tk', os'⟩ := t'
          have eg : g2 = s.gens := moved.gens
          have ed : d' = s.drawn := moved.drawn
          have eo : os' = s.os := moved.os
          subst eg; subst ed; subst eo
          show wpAny _ _ _ _ _ _
          refine wpAny_pure ?_
          show wpAny _ _ (ret Value.none) _ _ _
          rw [many] at hc'
          refine wpAny_pure ⟨rfl, h', tk', c', rfl, is', hc', fun b o e => ?_⟩
          have below : b < s.heap.objs.size := Heap.lt_size e
          refine moved.heap b o (fun z => ?_) (Heap.get?_push_of_some _ (Heap.get?_push_of_some _ e))
          rcases List.mem_cons.mp z with z | z
          · exact Nat.ne_of_lt below z
          · rw [Heap.size_push] at z
            exact Nat.ne_of_lt (Nat.lt_succ_of_lt below) (List.mem_singleton.mp z)
      · cases r2 with
        | error e => exact hr2
        | ok fl2 =>
          cases fl2 with
          | ret r =>
            obtain ⟨rfl, h', tk, c', rfl, is', hc', kept⟩ := hr2
            repeat (any_goals (first | assumption | wp_step))
            exact then_ _ _ _ is' hc' kept
          | _ => exact hr2.elim
    | _ => exact hr.elim
/-- a set has as many members as it has -/
theorem setR_count {h : Heap} {a : Addr} {S : Int → Bool} {n : Nat} (R : SetR w h a S n) : ∃ ks : List Int, ks.Nodup ∧ (∀ k, S k = true ↔ k ∈ ks) ∧ ks.length = n := by
  obtain ⟨o, es, ep, t, _, _, _, _, nd, hm, _, _, hn, _⟩ := R
  exact ⟨_, nd, hm, by rw [List.length_map, Array.length_toList]; exact hn⟩
end

/-! ### lists without doubles -/
theorem nodup_interval : ∀ (m : Nat) (ks : List Int) (lo : Int), ks.Nodup → (∀ k, k ∈ ks → lo ≤ k ∧ k < lo + (m : Int)) → ks.length ≤ m
  | 0, ks, lo, _, h => by
    cases ks with
    | nil => exact Nat.le_refl _
    | cons k r => have := h k List.mem_cons_self; omega
  | m + 1, ks, lo, nd, h => by
    by_cases z : lo ∈ ks
    · have l1 := List.length_erase_of_mem z
      have ih := nodup_interval m (ks.erase lo) (lo + 1) (nd.erase lo) fun k hk => by
        have k1 := List.mem_of_mem_erase hk
        have k2 : k ≠ lo := fun e => by
          subst e
          exact (List.Nodup.mem_erase_iff nd).mp hk |>.1 rfl
        have := h k k1
        omega
      have : 0 < ks.length := List.length_pos_of_mem z
      omega
    · have ih := nodup_interval m ks (lo + 1) nd fun k hk => by
        have := h k hk
        have k2 : k ≠ lo := fun e => z (e ▸ hk)
        omega
      omega
/-- strictly rising, of the same members -/
def dedupA : List Int → List Int
  | [] => []
  | x :: xs => match dedupA xs with
    | [] => [x]
    | y :: ys => if x = y then y :: ys else x :: y :: ys
theorem dedupA_mem : ∀ (xs : List Int) (k : Int), k ∈ dedupA xs ↔ k ∈ xs
  | [], k => Iff.rfl
  | x :: xs, k => by
    have ih := dedupA_mem xs k
    unfold dedupA
    cases e : dedupA xs with
    | nil =>
      rw [e] at ih
      show k ∈ [x] ↔ _
      rw [List.mem_cons, List.mem_cons, ih]
    | cons y ys =>
      rw [e] at ih
      show k ∈ (if x = y then y :: ys else x :: y :: ys) ↔ _
      by_cases z : x = y
      · rw [if_pos z, List.mem_cons (a := k) (b := x), ← ih, z]
        constructor
        · exact fun h => .inr h
        · rintro (rfl | h)
          · exact List.mem_cons_self
          · exact h
      · rw [if_neg z, List.mem_cons, ih, List.mem_cons]
theorem dedupA_rise : ∀ (xs : List Int), xs.Pairwise (· ≤ ·) → (dedupA xs).Pairwise (· < ·)
  | [], _ => .nil
  | x :: xs, h => by
    obtain ⟨h1, h2⟩ := List.pairwise_cons.mp h
    have ih := dedupA_rise xs h2
    unfold dedupA
    cases e : dedupA xs with
    | nil => exact List.pairwise_singleton _ _
    | cons y ys =>
      rw [e] at ih
      have hy : y ∈ xs := (dedupA_mem xs y).mp (by rw [e]; exact List.mem_cons_self)
      have hxy := h1 y hy
      show (if x = y then y :: ys else x :: y :: ys).Pairwise (· < ·)
      by_cases z : x = y
      · rw [if_pos z]; exact ih
      · rw [if_neg z]
        refine List.pairwise_cons.mpr ⟨fun k hk => ?_, ih⟩
        rcases List.mem_cons.mp hk with rfl | hk
        · omega
        · have := (List.pairwise_cons.mp ih).1 k hk; omega
theorem rise_is : ∀ {xs ys : List Int}, xs.Pairwise (· < ·) → ys.Pairwise (· < ·) → (∀ k, k ∈ xs ↔ k ∈ ys) → xs = ys
  | [], [], _, _, _ => rfl
  | [], y :: ys, _, _, h => absurd ((h y).mpr List.mem_cons_self) (by simp)
  | x :: xs, [], _, _, h => absurd ((h x).mp List.mem_cons_self) (by simp)
  | x :: xs, y :: ys, h1, h2, h => by
    obtain ⟨a1, a2⟩ := List.pairwise_cons.mp h1
    obtain ⟨b1, b2⟩ := List.pairwise_cons.mp h2
    have e : x = y := by
      have p := (h x).mp List.mem_cons_self
      have q := (h y).mpr List.mem_cons_self
      rcases List.mem_cons.mp p with p | p
      · exact p
      · rcases List.mem_cons.mp q with q | q
        · exact q.symm
        · have := b1 x p; have := a1 y q; omega
    subst e
    rw [rise_is a2 b2 fun k => ?_]
    constructor
    · intro hk
      have := a1 k hk
      rcases List.mem_cons.mp ((h k).mp (List.mem_cons_of_mem _ hk)) with p | p
      · omega
      · exact p
    · intro hk
      have := b1 k hk
      rcases List.mem_cons.mp ((h k).mpr (List.mem_cons_of_mem _ hk)) with p | p
      · omega
      · exact p
def sset (ns : List Int) : List Int := dedupA (sorts ns)
theorem sset_mem {ns : List Int} {k : Int} : k ∈ sset ns ↔ k ∈ ns := (dedupA_mem _ k).trans (sorts_perm ns).mem_iff
theorem sset_rise (ns : List Int) : (sset ns).Pairwise (· < ·) := dedupA_rise _ (sorts_pair ns)
theorem sset_is {ns ms : List Int} (h1 : ms.Pairwise (· < ·)) (h2 : ∀ k, k ∈ ms ↔ k ∈ ns) : ms = sset ns := rise_is h1 (sset_rise ns) fun k => (h2 k).trans sset_mem.symm

section
variable {X : Cx} {a : Expr} {ta : DT} {pos p p2 pos2 : Pos}
def rSetI (w : World) (K : PySem.W.Frag) : List V → Hp → VK → Prop := fun vs H Q => ∃ (l : Addr) (ns : List Int), vs = [V.ref l] ∧ SqL K H l (ns.map V.int) ∧ ns.length + 1 < scanBound ∧
  ∀ (q : Addr) (c : Nat), H q = none → (∃ ks : List Int, ks.Nodup ∧ (∀ k, decide (k ∈ ns) = true ↔ k ∈ ks) ∧ ks.length = c) → Q (.ref q) (upd H q (SetO w q (fun j => decide (j ∈ ns)) c))
theorem cr_setI (hc : X.calm = true) : CallR X (.type "set") (rSetI X.w X.K) := by
  intro pins s σ H vs us Q I r h
  obtain ⟨l, ns, rfl, hs, small, q⟩ := h
  obtain ⟨its, rv, isl, _⟩ := I.list hs
  rw [Vals.ref1 r]
  refine set_of_ints ns (I.ok.hd hc) isl.isList (intsAre_of rv) small fun h' tk c R _ kept => ?_
  have fr : H s.heap.objs.size = none := I.hok.fresh (Nat.le_refl _)
  exact ⟨.ref s.heap.objs.size, _, I.laid (t' := tk) kept (Nat.le_refl _) (setO_new R), rfl, q _ c fr (setR_count R)⟩
def ssetW (d : PD) (Q : DV → Prop) : Prop := ∃ (ns : List Int) (lo : Int), d = .list (ns.map PyData.int) ∧ ns.length ≤ 4000 ∧ (∀ k, k ∈ ns → lo ≤ k ∧ k < lo + 63) ∧ Q (.fr ((sset ns).map PyData.int))
theorem de_sset (hc : X.calm = true) (h1 : X.mg "sorted" = none) (h2 : X.mg "set" = none) (ha : DE X a ta) (g1 : Gl X "sorted" := by rfl) (g2 : Gl X "set" := by rfl) (he : starEach (a :: []) X.env = (false, eval a X.env) :: starEach [] X.env := by rfl)
    (he2 : starEach (.Call (.Name "set" p2) [a] [] pos2 :: []) X.env = (false, eval (.Call (.Name "set" p2) [a] [] pos2) X.env) :: starEach [] X.env := by rfl) :
    DE X (.Call (.Name "sorted" p) [.Call (.Name "set" p2) [a] [] pos2] [] pos) (d1 ssetW ta) where
  run := fun ρ σ w Q QQ cf h k => wp_of (pe_callB (cr_sortedSet hc) g1 h1 b_sorted (pa_cons (pe_callTy (cr_setI hc) g2 h2 b_set (pa_cons pe_star pa_nil he) (by decide) (by decide) he rfl) pa_nil he2) (by decide) (by decide) he2 rfl) (ha.run ρ σ w _ _ cf h fun x dx ρ1 w1 q1 c1 e1 k1 => by
    obtain ⟨d, hd, ns, lo, rfl, hl, hb, q3⟩ := withD.elim q1
    have r := ShRd.of c1 k1 (Ext.refl w1) hd
    obtain ⟨l, vs, rfl, hv, ha⟩ := r
    rw [dpa_ints ha] at hv
    refine ⟨l, ns, rfl, SqL.of hv, by unfold scanBound; omega, fun q c hq ⟨ks, nd, hm, hk⟩ => ?_⟩
    refine ⟨q, _, c, rfl, upd_same, ?_, fun ms p rise mem hlen hp => ?_⟩
    · have := nodup_interval 63 ks lo nd fun k hk' => hb k (of_decide_eq_true ((hm k).mpr hk'))
      omega
    · rw [sset_is (ns := ns) rise fun k => (mem k).trans decide_eq_true_iff]
      have c2 := c1.new (o := SetO X.w q (fun j => decide (j ∈ ns)) c) hq
      exact (show After X.K ρ1 σ _ (fun r => Q r ρ1) QQ from fun v dv w' q' c' e' k' => k v dv ρ1 w' q' c' ((e1.trans (Ext.new hq)).trans e') (k'.pre (e1.trans (Ext.new hq)))).fr c2 hp (dpa_of_ints _) q3)
  mono := fun ρ Q Q' h q => ha.mono ρ _ _ (fun x ρ1 q1 => withD.mono (fun d ⟨ns, lo, e, b1, b2, q2⟩ => ⟨ns, lo, e, b1, b2, h _ _ q2⟩) q1) q
end
end Cu

set_option Elab.async false
set_option linter.all false
set_option maxRecDepth 100000
set_option maxHeartbeats 4000000
/-! the box of draws; defs that hand back a new list; more rules -/
namespace Cu
open PySem PySem.Spec PyProof.Rows L2

/-! ### the box -/
/-- three numbers in a list at b -/
def Trip (b : Addr) (x y z : Int) : Res where
  val := .ref b
  rel := fun _ v fp _ H => v = .ref b ∧ fp = [b] ∧ H b = some (.lst [.int x, .int y, .int z])
  mono := fun ⟨e1, e2, h⟩ _ k => ⟨e1, e2, (k b (by rw [e2]; exact List.mem_singleton.mpr rfl)).trans h⟩
  isv := fun h => h.1
/-- so many draws are left at least -/
def Box (b : Addr) (r : Nat) : Res where
  val := .ref b
  rel := fun _ v fp _ H => v = .ref b ∧ fp = [b] ∧ ∃ x y z : Int, H b = some (.lst [.int x, .int y, .int z]) ∧ 0 ≤ z ∧ z + (r : Int) ≤ 4611686018427387904
  mono := fun ⟨e1, e2, x, y, z, h, q⟩ _ k => ⟨e1, e2, x, y, z, (k b (by rw [e2]; exact List.mem_singleton.mpr rfl)).trans h, q⟩
  isv := fun h => h.1
theorem Box.less {b : Addr} {r r' : Nat} {K : PySem.W.Frag} {v : V} {fp : List Addr} {G H : Hp} (h : (Box b r).rel K v fp G H) (hr : r' ≤ r) : (Box b r').rel K v fp G H := by
  obtain ⟨e1, e2, x, y, z, h, h1, h2⟩ := h
  exact ⟨e1, e2, x, y, z, h, h1, by omega⟩
def tripQ (j : Nat) : Res → (Int → Prop) → Prop := fun R k => ∃ b x y z, R = Trip b x y z ∧ match j with
  | 0 => k x
  | 1 => k y
  | _ => k z
section
variable {X : Cx} {a b c e f elt tg iter : Expr} {es ifs : List Expr} {ta tb tc te : DT} {tr : DTa} {tt : DTt} {pos p : Pos} {x y z : Str} {st : Stmt} {rest sts sts2 : List Stmt} {t u : DTS}
/-- box[j] -/
def dTrip (i j : Nat) : DT := fun ρ Q => ownQ ρ[i]? fun R => tripQ j R fun n => Q (.dat (.int n)) ρ
theorem de_trip (i j : Nat) {py ps : Pos} {jj} {pj : Pos} (hj : j < 3) (hN : X.N[i]? = some x := by rfl) (hv : Vis X.env.scope x := by first | exact Or.inl rfl | exact Or.inr (Or.inl rfl) | exact Or.inr (Or.inr rfl)) (hd : (x == ("__debug__" : Str)) = false := by decide)
    (hcd : (x == ("__classdict__" : Str)) = false := by decide) : DE X (.Subscript (.Name x py) (.Constant (.int (j : Int)) jj pj) ps) (dTrip i j) where
  run := fun ρ σ w Q QQ cf h k => by
    obtain ⟨R, h0, b, x0, y0, z0, rfl, q⟩ := ownQ.elim h
    have hi : i < σ.length := by rw [← cf.len]; exact (List.getElem?_eq_some_iff.mp h0).1
    have hσ : σ[i]? = some σ[i] := List.getElem?_eq_getElem hi
    obtain ⟨v, ev, e1, e2, hb⟩ := cf.slot i _ _ h0 hσ
    subst e1
    have fin : ∀ n : Int, Q (.dat (.int n)) ρ → QQ (.int n) w.H := fun n q => k _ _ ρ w q cf (Ext.refl w) (.int n)
    refine wp_of (pe_ix ix_list (pe_var hN hv hd hcd) pe_int (fun _ _ => rfl)) ?_
    match j, hj, q with
    | 0, _, q => exact ⟨.ref b, by rw [hσ, ev], b, _, _, _, rfl, rfl, SqL.of hb, rfl, fin _ q⟩
    | 1, _, q => exact ⟨.ref b, by rw [hσ, ev], b, _, _, _, rfl, rfl, SqL.of hb, rfl, fin _ q⟩
    | 2, _, q => exact ⟨.ref b, by rw [hσ, ev], b, _, _, _, rfl, rfl, SqL.of hb, rfl, fin _ q⟩
  mono := fun ρ Q Q' h q => ownQ.mono (fun R ⟨b, x, y, z, e, q⟩ => ⟨b, x, y, z, e, by
    split at q <;> exact h _ _ q⟩) q
/-- one's own thing changes -/
theorem Cfg.ownMut {K : PySem.W.Frag} {ρ : List Slot} {σ : L2.St} {w : Wd} {i : Nat} {R R' : Res} {b : Addr} {o : HO} (c : Cfg K ρ σ w) (h0 : ρ[i]? = some (.own R)) (hm : b ∈ w.F i) (hr : ∀ v, σ[i]? = some (some v) → R.rel K v (w.F i) w.G w.H → R'.rel K v (w.F i) w.G (upd w.H b o)) :
    Cfg K (ρ.set i (.own R')) σ ⟨w.G, upd w.H b o, w.F⟩ ∧ Ext w ⟨w.G, upd w.H b o, w.F⟩ := by
  have hG := (c.priv i b hm).1
  refine ⟨⟨fun a u h => ?_, fun j a hj => ⟨(c.priv j a hj).1, ?_⟩, c.disj, by rw [List.length_set]; exact c.len, fun j t u hj ho => ?_⟩, ⟨Ex.refl _, fun a u ha hf => ?_, fun a _ hg _ => hg, fun a ha => ?_, fun j a hj => .inl ⟨j, hj⟩⟩⟩
  · show upd w.H b o a = _
    rw [upd_ne (fun z => by rw [z, hG] at h; cases h)]
    exact c.ex a u h
  · show upd w.H b o a ≠ none
    by_cases z : a = b
    · rw [z, upd_same]; exact fun z => nomatch z
    · rw [upd_ne z]; exact (c.priv j a hj).2
  · by_cases z : j = i
    · subst z
      have e1 := getElem?_set_same hj
      subst e1
      obtain ⟨v, ev, q⟩ := c.slot j _ _ h0 ho
      subst ev
      exact ⟨v, rfl, hr v ho q⟩
    · rw [List.getElem?_set_ne (fun y => z y.symm)] at hj
      have q2 := c.slot j t u hj ho
      have ne : ∀ a, a ∈ w.F j → a ≠ b := fun a ha y => z (c.disj j i a ha (by rw [y]; exact hm))
      cases t with
      | no => trivial
      | pub d => exact q2
      | lst ds2 =>
        obtain ⟨l2, vs2, e2, ef2, hl2, hd2⟩ := q2
        refine ⟨l2, vs2, e2, ef2, ?_, hd2⟩
        show upd w.H b o l2 = _
        rw [upd_ne (ne l2 (by rw [ef2]; exact List.mem_singleton.mpr rfl))]
        exact hl2
      | own R2 =>
        obtain ⟨v2, e2, hr2⟩ := q2
        exact ⟨v2, e2, R2.mono hr2 (Ex.refl _) fun a ha => upd_ne (ne a ha)⟩
  · show upd w.H b o a = _
    rw [upd_ne (fun z => hf i (by rw [z]; exact hm))]
    exact ha
  · show upd w.H b o a ≠ none
    by_cases z : a = b
    · rw [z, upd_same]; exact fun z => nomatch z
    · rw [upd_ne z]; exact ha
/-- box[j] = e -/
def dTripSet (i j : Nat) (te : DT) : DTS := fun D ρ => te ρ fun dv ρ1 => withD (rd ρ1 dv) fun d => match d with
  | .int n => ownQ ρ1[i]? fun R => ∃ b x y z, R = Trip b x y z ∧ match j with
    | 0 => D.nx (ρ1.set i (.own (Trip b n y z)))
    | 1 => D.nx (ρ1.set i (.own (Trip b x n z)))
    | _ => D.nx (ρ1.set i (.own (Trip b x y n)))
  | _ => False
theorem ds_tripSet (i j : Nat) {pn ps spos pj : Pos} {jj} (hj : j < 3) (he : DE X e te) (hN : X.N[i]? = some x := by rfl) (hv : Vis X.env.scope x := by first | exact Or.inl rfl | exact Or.inr (Or.inl rfl) | exact Or.inr (Or.inr rfl)) (hd : (x == ("__debug__" : Str)) = false := by decide)
    (hcd : (x == ("__classdict__" : Str)) = false := by decide)
    (ha : ∀ v, assign (.Subscript (.Name x pn) (.Constant (.int (j : Int)) jj pj) ps) X.env v = (do
      let ov ← holding [v] (eval (.Name x pn) X.env)
      let iv ← holding [v, ov] (eval (.Constant (.int (j : Int)) jj pj) X.env)
      standAt ps
      holding [v, ov, iv] (setItem ov iv v)
      release [v, ov, iv] []) := by intro _; rfl) (hs : swapsWithSole [.Subscript (.Name x pn) (.Constant (.int (j : Int)) jj pj) ps] e spos.line X.env = pure false := by rfl) (hw : swappedStores [.Subscript (.Name x pn) (.Constant (.int (j : Int)) jj pj) ps] e X.env = pure none := by rfl)
    (h1 : (assignEach [.Subscript (.Name x pn) (.Constant (.int (j : Int)) jj pj) ps] X.env).map (·.2) = [assign (.Subscript (.Name x pn) (.Constant (.int (j : Int)) jj pj) ps) X.env] := by rfl) :
    DS X (.Assign [.Subscript (.Name x pn) (.Constant (.int (j : Int)) jj pj) ps] e spos) (dTripSet i j te) := ⟨fun ρ σ w D DD cf h l => by
  refine wps_of (ps_asg pe_star (pg_sub (pe_var hN hv hd hcd) pe_int set_list ha) hs hw h1) (he.run ρ σ w _ _ cf h fun v dv ρ1 w1 q1 c1 e1 k1 => ?_)
  obtain ⟨d, hd1, q2⟩ := withD.elim q1
  have r := ShRd.of c1 k1 (Ext.refl w1) hd1
  cases d with
  | int n =>
    obtain ⟨R, h0, b, x0, y0, z0, rfl, q⟩ := ownQ.elim q2
    have hi : i < σ.length := by rw [← c1.len]; exact (List.getElem?_eq_some_iff.mp h0).1
    have hσ : σ[i]? = some σ[i] := List.getElem?_eq_getElem hi
    obtain ⟨v0, ev, e1', e2', hb⟩ := c1.slot i _ _ h0 hσ
    subst e1'
    rw [r.int]
    have hm : b ∈ w1.F i := by rw [e2']; exact List.mem_singleton.mpr rfl
    have fin : ∀ (x1 y1 z1 : Int) (vs : List V), vs = [.int x1, .int y1, .int z1] → D.nx (ρ1.set i (.own (Trip b x1 y1 z1))) → DD.nx σ (upd w1.H b (.lst vs)) := fun x1 y1 z1 vs evs q => by
      obtain ⟨c2, e2⟩ := c1.ownMut (R' := Trip b x1 y1 z1) (o := .lst vs) h0 hm fun v _ ⟨g1, g2, _⟩ => ⟨g1, g2, by rw [upd_same, evs]⟩
      exact l.nx _ σ _ q c2 (e1.trans e2)
    match j, hj, q with
    | 0, _, q => exact ⟨.ref b, by rw [hσ, ev], b, _, _, 0, rfl, rfl, hb, rfl, fin _ _ _ _ rfl q⟩
    | 1, _, q => exact ⟨.ref b, by rw [hσ, ev], b, _, _, 1, rfl, rfl, hb, rfl, fin _ _ _ _ rfl q⟩
    | 2, _, q => exact ⟨.ref b, by rw [hσ, ev], b, _, _, 2, rfl, rfl, hb, rfl, fin _ _ _ _ rfl q⟩
  | _ => exact (show False from q2).elim⟩
/-- a list of three ints of one's own is the box from here on -/
def boxQ (r : Nat) : Option Slot → (Res → Prop) → Prop
  | some (.lst [.int _, .int _, .int z]), k => (0 ≤ z ∧ z + (r : Int) ≤ 4611686018427387904) ∧ ∀ b, k (Box b r)
  | _, _ => False
def dBoxed (r i : Nat) (t : DTS) : DTS := fun D ρ => boxQ r ρ[i]? fun R => t D (ρ.set i (.own R))
theorem boxQ.elim {r : Nat} {o : Option Slot} {k : Res → Prop} (h : boxQ r o k) : ∃ x y z, o = some (.lst [.int x, .int y, .int z]) ∧ (0 ≤ z ∧ z + (r : Int) ≤ 4611686018427387904) ∧ ∀ b, k (Box b r) := by
  unfold boxQ at h
  split at h
  · exact ⟨_, _, _, rfl, h.1, h.2⟩
  · exact h.elim
theorem Cfg.conv {K : PySem.W.Frag} {ρ : List Slot} {σ : L2.St} {w : Wd} {i : Nat} {s s' : Slot} (c : Cfg K ρ σ w) (h0 : ρ[i]? = some s) (hr : ∀ o, SlotOk K w s o (w.F i) → SlotOk K w s' o (w.F i)) : Cfg K (ρ.set i s') σ w := by
  refine ⟨c.ex, c.priv, c.disj, by rw [List.length_set]; exact c.len, fun j t u hj ho => ?_⟩
  by_cases z : j = i
  · subst z
    have e1 := getElem?_set_same hj
    subst e1
    exact hr u (c.slot j _ _ h0 ho)
  · rw [List.getElem?_set_ne (fun y => z y.symm)] at hj
    exact c.slot j t u hj ho
theorem dss_box (r i : Nat) (h : DSs X sts t) : DSs X sts (dBoxed r i t) := ⟨fun ρ σ w D DD cf q l => by
  obtain ⟨x, y, z, h0, hz, q⟩ := boxQ.elim q
  have hi : i < σ.length := by rw [← cf.len]; exact (List.getElem?_eq_some_iff.mp h0).1
  have hσ : σ[i]? = some σ[i] := List.getElem?_eq_getElem hi
  obtain ⟨b, vs, eo, ef, hl, hd⟩ := cf.slot i _ _ h0 hσ
  refine h.run (ρ.set i (.own (Box b r))) σ w D DD (cf.conv h0 fun o so => ?_) (q b) l
  obtain ⟨b', vs', eo', ef', hl', hd'⟩ := so
  rw [ef] at ef'
  cases ef'
  have ev : vs' = [.int x, .int y, .int z] := by
    cases hd' with
    | cons h1 h2 => cases h1; cases h2 with
      | cons h1 h2 => cases h1; cases h2 with
        | cons h1 h2 => cases h1; cases h2; rfl
  exact ⟨.ref b, eo', rfl, ef, x, y, z, by rw [← ev]; exact hl', hz.1, hz.2⟩⟩
/-- fewer draws are told -/
def dLess (r i : Nat) (t : DTS) : DTS := fun D ρ => ownQ ρ[i]? fun R => ∃ b r0, R = Box b r0 ∧ r ≤ r0 ∧ t D (ρ.set i (.own (Box b r)))
end

/-! ### a def that hands back a new list -/
abbrev PhiF := List PD → (List PD → Prop) → Prop
def spF (K : PySem.W.Frag) (Φ : PhiF) : Sp := fun vs H Q _ => ∃ (G : Hp) (ds : List PD), Ex G H ∧ DdAll K G vs ds ∧
  Φ ds fun xs => ∀ l vs' w', Ext ⟨G, H, fun _ => []⟩ w' → Ex w'.G w'.H → H l = none → w'.H l = some (.lst vs') → w'.G l = none → DdAll K w'.G vs' xs → Q (.ref l) w'.H
section
variable {X : Cx} {a b c e f elt tg iter : Expr} {es ifs : List Expr} {ta tb tc te : DT} {tr : DTa} {tt : DTt} {pos p : Pos} {x y z : Str} {st : Stmt} {rest sts sts2 : List Stmt} {t u : DTS} {k : Nat}
def dCallF (Φ : PhiF) (tr : DTa) : DT := fun ρ Q => tr ρ fun ds ρ1 => Φ ds fun xs => Q (.fr xs) ρ1
theorem de_callF {Φ : PhiF} (F : FnAt X.prog X.w X.K X.mg X.base x k (spF X.K Φ)) {k0 : Nat} (hr : Room k0 X.A) (hm : ∀ {ds : List PD} {Q Q' : List PD → Prop}, (∀ d, Q d → Q' d) → Φ ds Q → Φ ds Q') (ha : DA X (a :: es) tr)
    (hk : k ≤ k0 := by decide) (hg : Gl X x := by rfl) (hd : (x == ("__debug__" : Str)) = false := by decide)
    (he : starEach (a :: es) X.env = (false, eval a X.env) :: starEach es X.env := by rfl) (hpl : (backTo pos (starEach es X.env)).any (·.1) = false := by rfl) : DE X (.Call (.Name x p) (a :: es) [] pos) (dCallF Φ tr) where
  run := fun ρ σ w Q QQ cf h kk => by
    obtain ⟨fa, fd, ps, F, gm, kp, bi⟩ := F.ex
    refine wp_of (pe_call F (hr.mono hk) hg gm kp bi .nil pass0 pa_star0 hd he hpl) (ha.run ρ σ w _ _ cf h fun vs ds ρ1 w1 q1 c1 e1 hv => ?_)
    rw [List.append_nil]
    refine ⟨w1.G, ds, c1.ex, hv, hm (fun xs q l vs' w' ew ex hl hl' hg' hd => ?_) q1⟩
    have ext : Ext w1 ⟨w'.G, w'.H, w1.F⟩ := ⟨ew.gg, fun a o ha _ => ew.keep a o ha (fun _ z => nomatch z), fun a ha hg _ => ew.out a ha hg (fun _ z => nomatch z), ew.dom, fun i a ha => .inl ⟨i, ha⟩⟩
    have cf' : Cfg X.K ρ1 σ ⟨w'.G, w'.H, w1.F⟩ := c1.step ew.gg ex fun i a ha => by
      obtain ⟨h1, h2⟩ := c1.priv i a ha
      refine ⟨?_, ew.out a h2 h1 (fun _ z => nomatch z)⟩
      cases q : w1.H a with
      | none => exact absurd q h2
      | some o => exact ew.keep a o q (fun _ z => nomatch z)
    exact kk (.ref l) (.fr xs) ρ1 ⟨w'.G, w'.H, w1.F⟩ q cf' (e1.trans ext) ⟨l, vs', rfl, e1.back hl, hl', hg', fun i z => (c1.priv i l z).2 hl, hd⟩
  mono := fun ρ Q Q' h q => ha.mono ρ _ _ (fun ds ρ1 q1 => hm (fun d => h _ _) q1) q
end
/-- statements of which the last returns a new list -/
abbrev DTF := (List PD → Prop) → List Slot → Prop
structure DF (X : Cx) (sts : List Stmt) (t : DTF) : Prop where
  run : ∀ (ρ : List Slot) (σ : L2.St) (w : Wd) (Q : List PD → Prop) (DD : Ends), Cfg X.K ρ σ w → t Q ρ →
    (∀ l vs xs w', Q xs → Ext w w' → Ex w'.G w'.H → ((∃ j, l ∈ w.F j) ∨ w.H l = none) → w'.H l = some (.lst vs) → w'.G l = none → DdAll X.K w'.G vs xs → DD.rt (.ref l) w'.H) → WpSs X sts DD σ w.H
section
variable {X : Cx} {a b c e f elt tg iter : Expr} {es ifs : List Expr} {ta tb tc te : DT} {tr : DTa} {tt : DTt} {pos p : Pos} {x y z : Str} {st : Stmt} {rest sts sts2 : List Stmt} {t : DTS} {u : DTF}
def dRetF (te : DT) : DTF := fun Q ρ => te ρ fun dv ρ1 => match dv with
  | .fr xs => Q xs
  | .slt i => lstQ ρ1[i]? Q
  | .dat _ => False
theorem df_ret (he : DE X e te) : DF X [.Return (some e) pos] (dRetF te) := ⟨fun ρ σ w Q DD cf h k => wpss_of (pss_one (ps_ret pe_star)) (he.run ρ σ w _ _ cf h fun v dv ρ1 w1 q1 c1 e1 k1 => by
  cases dv with
  | fr xs =>
    obtain ⟨l, vs', rfl, h0, h1, h2, _, h4⟩ := k1
    exact k l vs' xs w1 q1 e1 c1.ex (.inr h0) h1 h2 h4
  | slt i =>
    obtain ⟨ds, h0, q⟩ := lstQ.elim q1
    have hs : σ[i]? = some (some v) := k1
    obtain ⟨l, vs, ev, ef, hl, hd⟩ := c1.slot i _ _ h0 hs
    cases ev
    have hm : l ∈ w1.F i := by rw [ef]; exact List.mem_singleton.mpr rfl
    exact k l vs ds w1 q e1 c1.ex (e1.fps i l hm) hl (c1.priv i l hm).1 hd
  | dat d => exact (show False from q1).elim)⟩
def dSeqF (t : DTS) (u : DTF) : DTF := fun Q ρ => t { nx := u Q, rt := fun _ _ => False } ρ
theorem df_cons (h1 : DS X st t) (h2 : DF X rest u) : DF X (st :: rest) (dSeqF t u) := ⟨fun ρ σ w Q DD cf h k => wpss_of (pss_cons ps_star pss_star)
  (h1.run ρ σ w _ _ cf h ⟨fun ρ' σ' w' q c' e' => h2.run ρ' σ' w' Q DD c' q fun l vs xs w2 q2 e2 ex hl h3 h4 h5 => k l vs xs w2 q2 (e'.trans e2) ex (by
    rcases hl with ⟨j, hj⟩ | hn
    · exact e'.fps j l hj
    · exact .inr (e'.back hn)) h3 h4 h5, fun _ _ _ _ _ q _ _ _ => (show False from q).elim, fun _ _ _ q => (show False from q).elim, fun _ _ _ q => (show False from q).elim⟩)⟩
end
section
variable {P : Program} {w : World} {K : PySem.W.Frag} {mg : Str → Option Value} {base : Heap}
theorem fn_f {x qual : Str} {st : Stmt} {f : Addr} {fd : FuncData} {N ps : List Str} {k : Nat} {Φ : PhiF} (F : Fun K x qual st f fd) (S : FnScope N ps (defScope st)) (len : ∀ ds Q, Φ ds Q → ds.length = ps.length)
    (hbody : ∀ (cdv : Value) (A : Around) (outer : List Env) (s : Shared) (H : Hp) (E : XK), Room k (A.deeper (envOfC qual (defScope st) s.heap.objs.size f cdv)) →
      ∃ t, DF (cxOf CX0 P w K mg base N qual (defScope st) f cdv A outer s H E).nox (defBody st) t ∧ ∀ (ds : List PD) (Q : List PD → Prop), Φ ds Q → t Q (start0 ds N.length)) : FnOk P w K mg base CX0 (k + 1) f fd ps (spF K Φ) := by
  refine F.ok S (fun vs H Q E h => ?_) (fun cdv A outer s H vs Q E hr h => ?_)
  · obtain ⟨G, ds, _, hd, q⟩ := h
    rw [dpa_len hd]; exact len _ _ q
  · obtain ⟨G, ds, ex, hd, q⟩ := h
    obtain ⟨t, ht, hq⟩ := hbody cdv A outer s H E hr
    have hl := len _ _ q
    have hN : ps.length ≤ N.length := by have := congrArg List.length S.pre; rw [List.length_take] at this; omega
    have cf : Cfg K (start0 ds N.length) (L2.start N vs) ⟨G, H, fun _ => []⟩ := ⟨ex, (fun _ _ z => nomatch z), (fun _ _ _ z => nomatch z), by
      unfold start0 L2.start
      rw [List.length_append, List.length_append, List.length_map, List.length_map, List.length_replicate, List.length_replicate, dpa_len hd], start_slot hd rfl⟩
    refine ⟨_, pss_star, ht.run (start0 ds N.length) (L2.start N vs) ⟨G, H, fun _ => []⟩ _ _ cf (hq ds _ q) fun l vs' xs w' q e' ex hl h1 h2 h4 => ?_⟩
    rcases hl with ⟨j, hj⟩ | hn
    · cases hj
    · exact q l vs' w' e' ex hn h1 h2 h4
end
end Cu

set_option Elab.async false
set_option linter.all false
set_option maxRecDepth 100000
set_option maxHeartbeats 4000000
/-! the script; promises made weaker; list(range) -/
namespace Cu
open PySem PySem.Spec PyProof.Rows L2

/-- the script itself: a list that no one changes -/
def Scr (a : Addr) (ns : List Int) : Res where
  val := .ref a
  rel := fun K v fp G _ => v = .ref a ∧ fp = [] ∧ SqL K G a (ns.map V.int)
  mono := fun ⟨e1, e2, h⟩ eg _ => ⟨e1, e2, ex_l eg h⟩
  isv := fun h => h.1
theorem atI_ints {ns : List Int} {lo hi : Option Int} : cutD (ns.map PyData.int) lo hi = (cutV (ns.map V.int) lo hi |>.map fun v => match v with
    | .int i => PyData.int i
    | _ => .none) := by
  unfold cutD cutV
  simp only [List.length_map, List.map_take, List.map_drop, List.map_map]
  rfl
theorem cut_ints {K : PySem.W.Frag} {G : Hp} (ns : List Int) (lo hi : Option Int) : DdAll K G (cutV (ns.map V.int) lo hi) (cutD (ns.map PyData.int) lo hi) := cut_dda (dpa_of_ints ns) lo hi
section
variable {X : Cx} {a b c e f elt tg iter : Expr} {es ifs : List Expr} {ta tb tc te : DT} {tr : DTa} {tt : DTt} {pos p : Pos} {x y z : Str} {st : Stmt} {rest sts sts2 : List Stmt} {t u : DTS}
def scrQ : Option Slot → (List Int → Prop) → Prop := fun o k => ownQ o fun R => ∃ a ns, R = Scr a ns ∧ k ns
/-- script[lo:hi] -/
def dScrSl (i : Nat) (tl th : DTo) : DT := fun ρ Q => scrQ ρ[i]? fun _ => tl ρ fun l ρ2 => th ρ2 fun u ρ3 => scrQ ρ3[i]? fun ns => Q (.fr (cutD (ns.map PyData.int) l u)) ρ3
theorem de_scrSl (i : Nat) {py p2 : Pos} {lo hi : Option Expr} {tl th : DTo} (hl : DO X lo tl) (hh : DO X hi th) (hN : X.N[i]? = some x := by rfl) (hv : Vis X.env.scope x := by first | exact Or.inl rfl | exact Or.inr (Or.inl rfl) | exact Or.inr (Or.inr rfl)) (hd : (x == ("__debug__" : Str)) = false := by decide)
    (hcd : (x == ("__classdict__" : Str)) = false := by decide) : DE X (.Subscript (.Name x py) (.Slice lo hi none p2) pos) (dScrSl i tl th) where
  run := fun ρ σ w Q QQ cf h k => by
    obtain ⟨to, pl, sl⟩ := hl.star
    obtain ⟨uo, pu, su⟩ := hh.star
    obtain ⟨R, h0, a, ns, rfl, h⟩ := ownQ.elim h
    have hi : i < σ.length := by rw [← cf.len]; exact (List.getElem?_eq_some_iff.mp h0).1
    have hσ : σ[i]? = some σ[i] := List.getElem?_eq_getElem hi
    obtain ⟨v, ev, e1, e2, hb⟩ := cf.slot i _ _ h0 hσ
    subst e1
    refine wp_of (pe_slice sl_list (pe_var hN hv hd hcd) pl pu) ⟨.ref a, by rw [hσ, ev], sl ρ σ w _ _ cf h fun l ρ2 w2 q2 c2 e2 => su ρ2 σ w2 _ _ c2 q2 fun u ρ3 w3 q3 c3 e3 => ?_⟩
    obtain ⟨R3, h3, a3, ns3, rfl, q⟩ := ownQ.elim q3
    obtain ⟨v3, ev3, e13, e23, hb3⟩ := c3.slot i _ _ h3 hσ
    subst e13
    rw [ev] at ev3
    cases ev3
    have aft : After X.K ρ3 σ w3 (fun r => Q r ρ3) QQ := fun v dv w' q c' e' k' => k v dv ρ3 w' q c' ((e2.trans e3).trans e') (k'.pre (e2.trans e3))
    exact ⟨a, _, rfl, ex_l c3.ex hb3, fun p' hp' => aft.fr c3 hp' (cut_ints ns3 l u) q⟩
  mono := fun ρ Q Q' h q => ownQ.mono (fun R ⟨a, ns, e, q⟩ => ⟨a, ns, e, hl.mono ρ _ _ (fun l ρ2 q => hh.mono ρ2 _ _ (fun u ρ3 q => ownQ.mono (fun R ⟨a, ns, e, q⟩ => ⟨a, ns, e, h _ _ q⟩) q) q) q⟩) q
/-- list(range(a, b)) -/
def dLrange (ta tb : DT) : DT := fun ρ Q => ta ρ fun x ρ1 => tb ρ1 fun y ρ2 => withD (rd ρ2 x) fun d => withD (rd ρ2 y) fun d' => match d, d' with
  | .int i, .int j => RgOk i j ∧ Q (.fr ((rangeL i j).map PyData.int)) ρ2
  | _, _ => False
theorem rgV_is (i j : Int) : rgV i j = (rangeL i j).map V.int := by
  unfold rgV rangeL
  rw [List.map_map]
  rfl
theorem de_lrange {p2 pos2 : Pos} (hc : X.calm = true) (h1 : X.mg "list" = none) (h2 : X.mg "range" = none) (ha : DE X a ta) (hb : DE X b tb) (g1 : Gl X "list" := by rfl) (g2 : Gl X "range" := by rfl)
    (he1 : starEach [a, b] X.env = (false, eval a X.env) :: starEach [b] X.env := by rfl) (he2 : starEach [b] X.env = (false, eval b X.env) :: starEach [] X.env := by rfl) (hp : ((backTo pos2 (starEach [b] X.env)).any fun x => x.1) = false := by rfl)
    (he3 : starEach [.Call (.Name "range" p2) [a, b] [] pos2] X.env = (false, eval (.Call (.Name "range" p2) [a, b] [] pos2) X.env) :: starEach [] X.env := by rfl) :
    DE X (.Call (.Name "list" p) [.Call (.Name "range" p2) [a, b] [] pos2] [] pos) (dLrange ta tb) where
  run := fun ρ σ w Q QQ cf h k => wp_of (pe_listRg hc g1 h1 (prg_2 g2 h2 pe_star pe_star he1 he2 hp) he3) (ha.run ρ σ w _ _ cf h fun x dx ρ1 w1 q1 c1 e1 k1 => hb.run ρ1 σ w1 _ _ c1 q1 fun y dy ρ2 w2 q2 c2 e2 k2 => by
    obtain ⟨d, h1, q3⟩ := withD.elim q2
    obtain ⟨d', h2, q4⟩ := withD.elim q3
    have r1 := ShRd.of c2 k1 e2 h1
    have r2 := ShRd.of c2 k2 (Ext.refl w2) h2
    cases d with
    | int i =>
      cases d' with
      | int j =>
        refine ⟨i, j, r1.int, r2.int, q4.1, fun q hq => ?_⟩
        rw [rgV_is]
        exact (show After X.K ρ2 σ w2 (fun r => Q r ρ2) QQ from fun v dv w' q c' e' k' => k v dv ρ2 w' q c' ((e1.trans e2).trans e') (k'.pre (e1.trans e2))).fr c2 hq (dpa_of_ints _) q4.2
      | _ => exact (show False from q4).elim
    | _ => exact (show False from by cases d' <;> exact q4).elim)
  mono := fun ρ Q Q' h q => ha.mono ρ _ _ (fun x ρ1 q => hb.mono ρ1 _ _ (fun y ρ2 q => withD.mono (fun d q => withD.mono (fun d' q => by
    cases d <;> cases d' <;> first | exact (show False from q).elim | exact ⟨q.1, h _ _ q.2⟩) q) q) q) q
end

/-! ### weaker promises -/
section
variable {P : Program} {w : World} {K : PySem.W.Frag} {mg : Str → Option Value} {base : Heap} {x : Str} {k j : Nat}
theorem fnOk_weak {CX : CXT} {f : Addr} {fd : FuncData} {ps : List Str} {sp sp2 : Sp} (F : FnOk P w K mg base CX k f fd ps sp) (h : ∀ vs H Q E, sp2 vs H Q E → sp vs H Q E) : FnOk P w K mg base CX k f fd ps sp2 :=
  ⟨fun vs H Q E q => F.len vs H Q E (h vs H Q E q), fun A outer s H args us vs Q E hr he hb hv q => F.run A outer s H args us vs Q E hr he hb hv (h vs H Q E q)⟩
theorem FnAt.weak {sp sp2 : Sp} (F : FnAt P w K mg base x k sp) (h : ∀ vs H Q E, sp2 vs H Q E → sp vs H Q E) : FnAt P w K mg base x k sp2 := by
  obtain ⟨f, fd, ps, F, a, b, c⟩ := F.ex
  exact ⟨f, fd, ps, fnOk_weak F h, a, b, c⟩
theorem FnAt.up {sp : Sp} (F : FnAt P w K mg base x k sp) (h : k ≤ j) : FnAt P w K mg base x j sp := by
  obtain ⟨f, fd, ps, F, a, b, c⟩ := F.ex
  exact ⟨f, fd, ps, F.mono h, a, b, c⟩
theorem FnAt.weakP {Φ Ψ : PhiP} (F : FnAt P w K mg base x k (spP K Φ)) (h : ∀ ds Q, Ψ ds Q → Φ ds Q) : FnAt P w K mg base x k (spP K Ψ) :=
  F.weak fun _ _ _ _ ⟨G, ds, ex, hd, q⟩ => ⟨G, ds, ex, hd, h _ _ q⟩
/-- what is promised of three numbers, told of a box -/
def PhiTake : PhiO := fun R ds Q => ∃ (b : Addr) (x y z n : Int), R = Trip b x y z ∧ ds = [.int n] ∧ 0 < n ∧ n < 2 ^ 64 ∧ 0 ≤ z ∧ z < 4611686018427387904 ∧ ∀ k x' y' z', 0 ≤ k → k < n → 0 ≤ z' → z' ≤ z + 1 → Q (.int k) (Trip b x' y' z')
def PhiDraw : PhiO := fun R ds Q => ∃ (b : Addr) (r : Nat) (n : Int), R = Box b (r + 1) ∧ ds = [.int n] ∧ 0 < n ∧ n < 2 ^ 64 ∧ ∀ k, 0 ≤ k → k < n → Q (.int k) (Box b r)
theorem draw_of (F : FnAt P w K mg base x k (spO K PhiTake)) : FnAt P w K mg base x k (spO K PhiDraw) := F.weak fun vs H Q E h => by
  obtain ⟨G, fp, v0, vs', R, ds, rfl, ex, hfp, hR, hd, b, r, n, rfl, rfl, h0, h1, q⟩ := h
  obtain ⟨e1, e2, x, y, z, hb, hz0, hz1⟩ := hR
  refine ⟨G, fp, v0, vs', Trip b x y z, _, rfl, ex, hfp, ⟨e1, e2, hb⟩, hd, b, x, y, z, n, rfl, rfl, h0, h1, hz0, by omega, fun k x' y' z' hk0 hk1 hz hz' v w' fp' ew ex' hf' hR' hd' => ?_⟩
  obtain ⟨g1, g2, g3⟩ := hR'
  exact q k hk0 hk1 v w' fp' ew ex' hf' ⟨g1, g2, x', y', z', g3, hz, by omega⟩ hd'
theorem PhiDraw_m : ∀ {s : Res} {ds : List PD} {Q Q' : PD → Res → Prop}, (∀ d s', Q d s' → Q' d s') → PhiDraw s ds Q → PhiDraw s ds Q' := fun h ⟨b, r, n, e1, e2, h0, h1, q⟩ => ⟨b, r, n, e1, e2, h0, h1, fun k a c => h _ _ (q k a c)⟩
theorem PhiTake_l : ∀ s ds Q, PhiTake s ds Q → ds.length + 1 = 2 := fun s ds Q ⟨b, x, y, z, n, _, e, _⟩ => by rw [e]; rfl
/-- what a law is asked -/
def spLaw (K : PySem.W.Frag) : Sp := fun vs H Q _ => ∃ (a : Addr) (ns : List Int), vs = [.ref a] ∧ SqL K H a (ns.map V.int) ∧ ns.length ≤ 63 ∧ ∀ H', Q (.bl true) H'
def PhiLaw : PhiO := fun R ds Q => ∃ a ns, R = Scr a ns ∧ ns.length ≤ 63 ∧ ds = [] ∧ Q (.bool true) R
theorem PhiLaw_l : ∀ s ds Q, PhiLaw s ds Q → ds.length + 1 = 1 := fun s ds Q ⟨a, ns, _, _, e, _⟩ => by rw [e]; rfl
theorem law_of {CX : CXT} {f : Addr} {fd : FuncData} {ps : List Str} (F : FnOk P w K mg base CX k f fd ps (spO K PhiLaw)) : FnOk P w K mg base CX k f fd ps (spLaw K) := fnOk_weak F fun vs H Q E h => by
  obtain ⟨a, ns, rfl, hS, hl, q⟩ := h
  refine ⟨H, [], .ref a, [], Scr a ns, [], rfl, Ex.refl _, (fun _ z => nomatch z), ⟨rfl, rfl, hS⟩, .nil, a, ns, rfl, hl, rfl, fun v w' fp' _ _ _ _ hd => ?_⟩
  cases hd
  exact q _
def PhiCells : PhiO := fun R ds Q => ∃ a ns, R = Scr a ns ∧ ns.length ≤ 63 ∧ ds = [.int 2] ∧ ∀ cs : List Int, cs ≠ [] → cs.length ≤ 2 → Q (.list (cs.map PyData.int)) R
theorem PhiCells_m : ∀ {s : Res} {ds : List PD} {Q Q' : PD → Res → Prop}, (∀ d s', Q d s' → Q' d s') → PhiCells s ds Q → PhiCells s ds Q' := fun h ⟨a, ns, e1, hl, e2, q⟩ => ⟨a, ns, e1, hl, e2, fun cs h1 h2 => h _ _ (q cs h1 h2)⟩
theorem PhiCells_l : ∀ s ds Q, PhiCells s ds Q → ds.length + 1 = 2 := fun s ds Q ⟨a, ns, _, _, e, _⟩ => by rw [e]; rfl
def PhiBox : PhiF := fun ds Q => ∃ cs : List Int, cs ≠ [] ∧ ds = [.list (cs.map PyData.int), .int 0] ∧ ∀ x y : Int, Q [.int x, .int y, .int 0]
theorem PhiBox_m : ∀ {ds : List PD} {Q Q' : List PD → Prop}, (∀ d, Q d → Q' d) → PhiBox ds Q → PhiBox ds Q' := fun h ⟨cs, h0, e, q⟩ => ⟨cs, h0, e, fun x y => h _ (q x y)⟩
theorem PhiBox_l : ∀ ds Q, PhiBox ds Q → ds.length = 2 := fun ds Q ⟨cs, _, e, _⟩ => by rw [e]; rfl
end
end Cu

set_option Elab.async false
set_option linter.all false
set_option maxRecDepth 100000
set_option maxHeartbeats 4000000
/-! plain lemmas: what an item of a walked thing is; comprehensions that change nothing -/
namespace Cu
open PySem PySem.Spec PyProof.Rows L2

theorem cnd.decY {P : Prop} [Decidable P] {p q : Prop} (h : P) (k : p) : cnd (decide P) p q := by rw [decide_eq_true h]; exact .yes k
theorem cnd.decN {P : Prop} [Decidable P] {p q : Prop} (h : ¬ P) (k : q) : cnd (decide P) p q := by rw [decide_eq_false h]; exact .no k
theorem cnd.notY {P : Prop} [Decidable P] {p q : Prop} (h : ¬ P) (k : p) : cnd (!decide P) p q := by rw [decide_eq_false h]; exact .yes k
theorem cnd.notN {P : Prop} [Decidable P] {p q : Prop} (h : P) (k : q) : cnd (!decide P) p q := by rw [decide_eq_true h]; exact .no k
theorem cnd.dec {P : Prop} [Decidable P] {p q : Prop} (h1 : P → p) (h2 : ¬ P → q) : cnd (decide P) p q := ⟨fun h => h1 (of_decide_eq_true h), fun h => h2 (of_decide_eq_false h)⟩
theorem cnd.nt {b : Bool} {p q : Prop} (h : cnd b q p) : cnd (!b) p q := by cases b with
  | true => exact .no (h.t rfl)
  | false => exact .yes (h.f rfl)
theorem atI_zero {α : Type} {x : α} {xs : List α} : atI (x :: xs) 0 = some x := atI_nat (j := 0) rfl
theorem atI_one {α : Type} {x y : α} {xs : List α} : atI (x :: y :: xs) 1 = some y := atI_nat (j := 1) rfl
theorem atI_two {α : Type} {x y z : α} {xs : List α} : atI (x :: y :: z :: xs) 2 = some z := atI_nat (j := 2) rfl
theorem atI_int {α : Type} {xs : List α} {i : Int} (h0 : 0 ≤ i) (h1 : i < xs.length) : atI xs i = some (xs[i.toNat]'(by omega)) := by
  have := atI_nat (xs := xs) (j := i.toNat) (List.getElem?_eq_getElem (by omega))
  rw [Int.toNat_of_nonneg h0] at this
  exact this
theorem atI_map {α β : Type} {f : α → β} {xs : List α} {i : Int} {x : α} (h : atI xs i = some x) : atI (xs.map f) i = some (f x) := by
  unfold atI at h ⊢
  rw [List.length_map]
  cases q : ixN xs.length i with
  | none => rw [q] at h; cases h
  | some j =>
    rw [q] at h
    show (xs.map f)[j]? = _
    have h : xs[j]? = some x := h
    rw [List.getElem?_map, h]
    rfl
theorem atI_neg {α : Type} {xs : List α} {x : α} (h : xs.getLast? = some x) : atI xs (-1) = some x := by
  obtain ⟨ys, rfl⟩ : ∃ ys, xs = ys ++ [x] := by
    rw [List.getLast?_eq_some_iff] at h
    exact h
  exact atI_last ys x
theorem ixN_ok {n : Nat} {i : Int} (h0 : 0 ≤ i) (h1 : i < n) : ixN n i = some i.toNat := by unfold ixN; rw [if_pos h0, if_pos h1]
theorem ixN_neg {n : Nat} (h : 0 < n) : ixN n (-1) = some (n - 1) := by
  unfold ixN
  rw [if_neg (by omega), if_pos (by omega)]
  congr 1
  omega
theorem setAt_last (xs : List PD) (x d : PD) : setAt (xs ++ [x]) (-1) d = some (xs ++ [d]) := by
  unfold setAt
  rw [ixN_neg (by rw [List.length_append, List.length_singleton]; omega)]
  show some ((xs ++ [x]).set ((xs ++ [x]).length - 1) d) = _
  congr 1
  rw [List.length_append, List.length_singleton, Nat.add_sub_cancel, List.set_append_right _ _ (Nat.le_refl _), Nat.sub_self]
  rfl
theorem setAt_at {xs : List PD} {n : Int} (d : PD) (h0 : 0 ≤ n) (h1 : n < xs.length) : setAt xs n d = some (xs.set n.toNat d) := by
  unfold setAt
  rw [ixN_ok h0 h1]
  rfl
theorem map_inv {α β : Type} {f : α → β} {xs : List α} {i : Nat} {d : β} (h : (xs.map f)[i]? = some d) : ∃ x, xs[i]? = some x ∧ d = f x := by
  rw [List.getElem?_map] at h
  cases q : xs[i]? with
  | none => rw [q] at h; cases h
  | some x => rw [q] at h; cases h; exact ⟨x, rfl, rfl⟩
theorem range_inv {lo hi : Int} {i : Nat} {d : PD} (h : ((rangeL lo hi).map PyData.int)[i]? = some d) : d = .int (lo + i) ∧ lo + i < hi := by
  obtain ⟨n, h1, rfl⟩ := map_inv h
  obtain ⟨k, h2, rfl⟩ := map_inv (show ((List.range (hi - lo).toNat).map fun (k : Nat) => lo + (k : Int))[i]? = some n from h1)
  have hk := (List.getElem?_eq_some_iff.mp h2)
  obtain ⟨hk1, hk2⟩ := hk
  rw [List.length_range] at hk1
  rw [List.getElem_range] at hk2
  subst hk2
  exact ⟨rfl, by omega⟩
theorem rangeL_len (lo hi : Int) : ((rangeL lo hi).map PyData.int).length = (hi - lo).toNat := by
  unfold rangeL
  rw [List.length_map, List.length_map, List.length_range]
theorem rangeL_mem {lo hi x : Int} : x ∈ rangeL lo hi ↔ lo ≤ x ∧ x < hi := by
  unfold rangeL
  rw [List.mem_map]
  constructor
  · rintro ⟨k, hk, rfl⟩
    rw [List.mem_range] at hk
    omega
  · rintro ⟨h1, h2⟩
    exact ⟨(x - lo).toNat, List.mem_range.mpr (by omega), by omega⟩
theorem enum_inv : ∀ {xs : List PD} {n i : Nat} {d : PD}, (enumD n xs)[i]? = some d → ∃ x, xs[i]? = some x ∧ d = .tuple [.int ((n + i : Nat) : Int), x]
  | xs, n, i, d, h => by
    have hi : i < xs.length := by
      have := (List.getElem?_eq_some_iff.mp h).1
      rw [enumD_len] at this
      exact this
    have := enumD_get (n := n) (List.getElem?_eq_getElem hi)
    rw [this] at h
    cases h
    exact ⟨_, List.getElem?_eq_getElem hi, rfl⟩
theorem zip_inv {xs ys : List PD} {i : Nat} {d : PD} (h : (zipD xs ys)[i]? = some d) : ∃ x y, xs[i]? = some x ∧ ys[i]? = some y ∧ d = .tuple [x, y] := by
  have hi := (List.getElem?_eq_some_iff.mp h).1
  rw [zipD_len] at hi
  have h1 : i < xs.length := by omega
  have h2 : i < ys.length := by omega
  have := zipD_get (List.getElem?_eq_getElem h1) (List.getElem?_eq_getElem h2)
  rw [this] at h
  cases h
  exact ⟨_, _, List.getElem?_eq_getElem h1, List.getElem?_eq_getElem h2, rfl⟩
theorem zipD_map {α β : Type} (e : α → PD) (f : β → PD) : ∀ (xs : List α) (ys : List β), zipD (xs.map e) (ys.map f) = (xs.zip ys).map fun p => .tuple [e p.1, f p.2]
  | [], [] => rfl
  | [], _ :: _ => rfl
  | _ :: _, [] => rfl
  | x :: xs, y :: ys => by
    show PyData.tuple [e x, f y] :: zipD (xs.map e) (ys.map f) = _
    rw [zipD_map e f xs ys]
    rfl
theorem cutD_take (ds : List PD) (n : Nat) : cutD ds none (some (n : Int)) = ds.take n := by
  unfold cutD
  rw [HT.sIx_nat]
  show (ds.drop 0).take (min n ds.length - 0) = _
  rw [List.drop_zero, Nat.sub_zero]
  rcases Nat.le_total n ds.length with h | h
  · rw [Nat.min_eq_left h]
  · rw [Nat.min_eq_right h, List.take_length, List.take_of_length_le h]
theorem cutD_drop (ds : List PD) (n : Nat) : cutD ds (some (n : Int)) none = ds.drop n := by
  unfold cutD
  rw [HT.sIx_nat]
  show (ds.drop (min n ds.length)).take (ds.length - min n ds.length) = _
  rw [← List.length_drop, List.take_length]
  rcases Nat.le_total n ds.length with h | h
  · rw [Nat.min_eq_left h]
  · rw [Nat.min_eq_right h, List.drop_length, List.drop_eq_nil_of_le h]
theorem cutD_mid (ds : List PD) (a b : Nat) : cutD ds (some (a : Int)) (some (b : Int)) = (ds.drop a).take (b - a) := by
  unfold cutD
  rw [HT.sIx_nat, HT.sIx_nat]
  rcases Nat.le_total a ds.length with h | h
  · rw [Nat.min_eq_left h]
    rcases Nat.le_total b ds.length with h2 | h2
    · rw [Nat.min_eq_left h2]
    · rw [Nat.min_eq_right h2, List.take_of_length_le (by rw [List.length_drop]; omega), List.take_of_length_le (by rw [List.length_drop]; omega)]
  · rw [Nat.min_eq_right h, List.drop_length, List.drop_eq_nil_of_le h, List.take_nil, List.take_nil]
theorem bools_is {α : Type} (xs : List α) (p : α → Bool) : xs.map (fun x => PyData.bool (p x)) = (xs.map p).map PyData.bool := by rw [List.map_map]; rfl
theorem ints_is {α : Type} (xs : List α) (p : α → Int) : xs.map (fun x => PyData.int (p x)) = (xs.map p).map PyData.int := by rw [List.map_map]; rfl

/-- data of a depth below n, without dicts, every row short -/
def okN : Nat → PD → Prop
  | 0, _ => False
  | n + 1, .list ds => ds.length ≤ 16000000 ∧ ∀ d, d ∈ ds → okN n d
  | n + 1, .tuple ds => ds.length ≤ 16000000 ∧ ∀ d, d ∈ ds → okN n d
  | _ + 1, .dict _ => False
  | _ + 1, .str s => PyData.strOk s = true
  | _ + 1, _ => True
theorem okN_up : ∀ {n : Nat} {d : PD}, okN n d → okN (n + 1) d
  | 0, _, h => (show False from h).elim
  | n + 1, .list ds, h => ⟨h.1, fun d hd => okN_up (h.2 d hd)⟩
  | n + 1, .tuple ds, h => ⟨h.1, fun d hd => okN_up (h.2 d hd)⟩
  | n + 1, .dict _, h => (show False from h).elim
  | n + 1, .none, _ => trivial
  | n + 1, .bool _, _ => trivial
  | n + 1, .int _, _ => trivial
  | n + 1, .str _, h => h
theorem okN_le {n m : Nat} {d : PD} (h : okN n d) (l : n ≤ m) : okN m d := by
  obtain ⟨k, rfl⟩ := Nat.exists_eq_add_of_le l
  clear l
  induction k with
  | zero => exact h
  | succ k ih => exact okN_up ih
mutual
theorem okN_lay : ∀ {n : Nat} {d : PD}, okN n d → d.canLay0 = true ∧ d.depth ≤ n
  | 0, _, h => (show False from h).elim
  | n + 1, .list ds, h => by
    rw [PyData.canLay0, PyData.depth]
    have := okN_layAll (n := n) (ds := ds) h.2
    exact ⟨this.1, by omega⟩
  | n + 1, .tuple ds, h => by
    rw [PyData.canLay0, PyData.depth]
    have := okN_layAll (n := n) (ds := ds) h.2
    exact ⟨this.1, by omega⟩
  | n + 1, .dict _, h => (show False from h).elim
  | n + 1, .none, _ => by rw [PyData.canLay0, PyData.depth]; exact ⟨rfl, by omega⟩
  | n + 1, .bool _, _ => by rw [PyData.canLay0, PyData.depth]; exact ⟨rfl, by omega⟩
  | n + 1, .int _, _ => by rw [PyData.canLay0, PyData.depth]; exact ⟨rfl, by omega⟩
  | n + 1, .str _, h => by rw [PyData.canLay0, PyData.depth]; exact ⟨h, by omega⟩
theorem okN_layAll : ∀ {n : Nat} {ds : List PD}, (∀ d, d ∈ ds → okN n d) → PyData.canLayAll0 ds = true ∧ PyData.depthAll ds ≤ n
  | n, [], _ => by rw [PyData.canLayAll0, PyData.depthAll]; exact ⟨rfl, by omega⟩
  | n, d :: ds, h => by
    rw [PyData.canLayAll0, PyData.depthAll]
    have h1 := okN_lay (h d List.mem_cons_self)
    have h2 := okN_layAll (n := n) (ds := ds) fun e he => h e (List.mem_cons_of_mem _ he)
    exact ⟨by rw [h1.1, h2.1]; rfl, by omega⟩
end
theorem shaped_of {n : Nat} {d : PD} (h : okN n d) (hn : n ≤ 64) : SeqAt.shaped d = true := by
  have := okN_lay h
  unfold SeqAt.shaped
  rw [this.1, decide_eq_true (by omega)]
  rfl
theorem eqv_listNil (xs : List PD) : PyData.eqv (.list xs) (.list []) = xs.isEmpty := by
  rw [PyData.eqv]
  cases xs with
  | nil => rw [PyData.eqvAll]; rfl
  | cons x xs => rw [PyData.eqvAll]; rfl; all_goals (intros; intro h; cases h)
theorem eqv_tupNil (xs : List PD) : PyData.eqv (.tuple xs) (.tuple []) = xs.isEmpty := by
  rw [PyData.eqv]
  cases xs with
  | nil => rw [PyData.eqvAll]; rfl
  | cons x xs => rw [PyData.eqvAll]; rfl; all_goals (intros; intro h; cases h)
theorem eqv_noneL (x : PD) (h : x ≠ .none) : PyData.eqv .none x = false := by
  cases x <;> first | exact absurd rfl h | (rw [PyData.eqv] <;> (intros; intro h; cases h))
mutual
theorem eqv_refl : ∀ {n : Nat} {d : PD}, okN n d → PyData.eqv d d = true
  | 0, _, h => (show False from h).elim
  | n + 1, .list ds, h => by rw [PyData.eqv]; exact eqvAll_refl (n := n) h.2
  | n + 1, .tuple ds, h => by rw [PyData.eqv]; exact eqvAll_refl (n := n) h.2
  | n + 1, .dict _, h => (show False from h).elim
  | n + 1, .none, _ => eqv_none
  | n + 1, .bool b, _ => by rw [eqv_bool]; cases b <;> rfl
  | n + 1, .int _, _ => by rw [eqv_int]; exact decide_eq_true rfl
  | n + 1, .str _, _ => by rw [PyData.eqv]; exact beq_self_eq_true _
theorem eqvAll_refl : ∀ {n : Nat} {ds : List PD}, (∀ d, d ∈ ds → okN n d) → PyData.eqvAll ds ds = true
  | n, [], _ => by rw [PyData.eqvAll]
  | n, d :: ds, h => by
    rw [PyData.eqvAll, eqv_refl (h d List.mem_cons_self), eqvAll_refl (n := n) (ds := ds) fun e he => h e (List.mem_cons_of_mem _ he)]
    rfl
end
theorem zipD_self (ds : List PD) : zipD ds ds = ds.map fun d => .tuple [d, d] := by
  induction ds with
  | nil => rfl
  | cons d ds ih =>
    show PyData.tuple [d, d] :: zipD ds ds = _
    rw [ih]
    rfl
/-! ### comprehensions that change nothing -/
section
variable {g : DTg} {tt : DTt} {te : DT} {vd : List Nat} {ρ1 : List Slot} {k : List PD → List Slot → Prop} {α : Type}
theorem lcQ_map (xs : List α) (enc : α → PD) (keep : α → Bool) (F : α → PD) (hl : xs.length ≤ 16000000)
    (hs : ∀ x, x ∈ xs → ∀ (KK : PD → List Slot → Prop) (SS : List Slot → Prop), (keep x = true → KK (F x) (wipeD ρ1 vd)) → (keep x = false → SS (wipeD ρ1 vd)) → g (enc x) (wipeD ρ1 vd) fun ρ3 => tt ρ3 fun b ρ4 => cnd b (te ρ4 fun dv ρ5 => toDat ρ5 dv fun y ρ6 => KK y (wipeD ρ6 vd)) (SS (wipeD ρ4 vd)))
    (hk : k ((xs.filter keep).map F) (mergeD ρ1 (wipeD ρ1 vd) vd)) : lcQ g tt te vd (xs.map enc) ρ1 k := by
  refine ⟨by rw [List.length_map]; exact hl, fun i acc ρ2 => ρ2 = wipeD ρ1 vd ∧ acc = ((xs.take i).filter keep).map F, ⟨rfl, rfl⟩, ?_, ?_⟩
  · rintro i acc d ρ2 hd ⟨rfl, rfl⟩
    obtain ⟨x, hx, rfl⟩ := map_inv hd
    refine hs x (List.mem_of_getElem? hx) (fun y ρ => ρ = wipeD ρ1 vd ∧ ((xs.take i).filter keep).map F ++ [y] = ((xs.take (i + 1)).filter keep).map F) (fun ρ => ρ = wipeD ρ1 vd ∧ ((xs.take i).filter keep).map F = ((xs.take (i + 1)).filter keep).map F) (fun h => ⟨rfl, ?_⟩) fun h => ⟨rfl, ?_⟩
    · rw [List.take_add_one, hx, List.filter_append, List.map_append]
      show _ = _ ++ ([x].filter keep).map F
      rw [List.filter_cons_of_pos h]
      rfl
    · rw [List.take_add_one, hx, List.filter_append, List.map_append]
      show _ = _ ++ ([x].filter keep).map F
      rw [List.filter_cons_of_neg (by rw [h]; exact fun z => nomatch z)]
      exact (List.append_nil _).symm
  · rintro acc ρ2 _ ⟨rfl, rfl⟩
    rw [List.length_map, List.take_length]
    exact hk
theorem lcQ_all (xs : List α) (enc : α → PD) (F : α → PD) (hl : xs.length ≤ 16000000)
    (hs : ∀ x, x ∈ xs → ∀ (KK : PD → List Slot → Prop) (S : List Slot → Prop), KK (F x) (wipeD ρ1 vd) → g (enc x) (wipeD ρ1 vd) fun ρ3 => cnd true (te ρ3 fun dv ρ5 => toDat ρ5 dv fun y ρ6 => KK y (wipeD ρ6 vd)) (S ρ3))
    (hk : k (xs.map F) (mergeD ρ1 (wipeD ρ1 vd) vd)) : lcQ g tAll te vd (xs.map enc) ρ1 k := by
  refine ⟨by rw [List.length_map]; exact hl, fun i acc ρ2 => ρ2 = wipeD ρ1 vd ∧ acc = (xs.take i).map F, ⟨rfl, rfl⟩, ?_, ?_⟩
  · rintro i acc d ρ2 hd ⟨rfl, rfl⟩
    obtain ⟨x, hx, rfl⟩ := map_inv hd
    refine hs x (List.mem_of_getElem? hx) (fun y ρ => ρ = wipeD ρ1 vd ∧ (xs.take i).map F ++ [y] = (xs.take (i + 1)).map F) _ ⟨rfl, ?_⟩
    rw [List.take_add_one, hx, List.map_append]
    rfl
  · rintro acc ρ2 _ ⟨rfl, rfl⟩
    rw [List.length_map, List.take_length]
    exact hk
theorem lcQ_id (xs : List PD) (F : PD → PD) (hl : xs.length ≤ 16000000)
    (hs : ∀ x, x ∈ xs → ∀ (KK : PD → List Slot → Prop) (S : List Slot → Prop), KK (F x) (wipeD ρ1 vd) → g x (wipeD ρ1 vd) fun ρ3 => cnd true (te ρ3 fun dv ρ5 => toDat ρ5 dv fun y ρ6 => KK y (wipeD ρ6 vd)) (S ρ3))
    (hk : k (xs.map F) (mergeD ρ1 (wipeD ρ1 vd) vd)) : lcQ g tAll te vd xs ρ1 k := by
  have := lcQ_all (te := te) (g := g) (vd := vd) (ρ1 := ρ1) (k := k) xs id F hl hs hk
  rw [List.map_id] at this
  exact this
end

/-! ### a statement with a promise behind it -/
section
variable {X : Cx} {st : Stmt} {rest : List Stmt} {t u : DTS}
def dSeqC (t u : DTS) : DTS := fun D ρ => ∃ M : List Slot → Prop, t { D with nx := M } ρ ∧ ∀ ρ', M ρ' → u D ρ'
theorem dss_consC (h1 : DS X st t) (h2 : DSs X rest u) : DSs X (st :: rest) (dSeqC t u) := ⟨fun ρ σ w D DD cf ⟨M, h, hM⟩ l => wpss_of (pss_cons ps_star pss_star)
  (h1.run ρ σ w _ _ cf h ⟨fun ρ' σ' w' q c' e' => h2.run ρ' σ' w' D DD c' (hM ρ' q) (l.later e'), l.rt, l.bk, l.ct⟩)⟩
end
end Cu

set_option Elab.async false
set_option linter.all false
set_option maxRecDepth 100000
set_option maxHeartbeats 4000000
namespace Cu
open PySem PySem.Spec PyProof.Rows L2
/-- lists made tuples -/
def tupD : Nat → PD → PD
  | n + 1, .list ds => .tuple (ds.map (tupD n))
  | n + 1, .tuple ds => .tuple (ds.map (tupD n))
  | _, d => d
/-- tuples alone -/
def okT : Nat → PD → Prop
  | 0, _ => False
  | _ + 1, .list _ => False
  | n + 1, .tuple ds => ds.length ≤ 16000000 ∧ ∀ d, d ∈ ds → okT n d
  | _ + 1, .dict _ => False
  | _ + 1, .str s => PyData.strOk s = true
  | _ + 1, _ => True
theorem okT_up : ∀ {n : Nat} {d : PD}, okT n d → okT (n + 1) d
  | 0, _, h => (show False from h).elim
  | n + 1, .list ds, h => (show False from h).elim
  | n + 1, .tuple ds, h => ⟨h.1, fun d hd => okT_up (h.2 d hd)⟩
  | n + 1, .dict _, h => (show False from h).elim
  | n + 1, .none, _ => trivial
  | n + 1, .bool _, _ => trivial
  | n + 1, .int _, _ => trivial
  | n + 1, .str _, h => h
theorem okT_ok : ∀ {n : Nat} {d : PD}, okT n d → okN n d
  | 0, _, h => (show False from h).elim
  | n + 1, .list ds, h => (show False from h).elim
  | n + 1, .tuple ds, h => ⟨h.1, fun d hd => okT_ok (h.2 d hd)⟩
  | n + 1, .dict _, h => (show False from h).elim
  | n + 1, .none, _ => trivial
  | n + 1, .bool _, _ => trivial
  | n + 1, .int _, _ => trivial
  | n + 1, .str _, h => h
theorem tupD_same : ∀ {n : Nat} {d : PD}, okT n d → tupD n d = d
  | 0, _, h => (show False from h).elim
  | n + 1, .list ds, h => (show False from h).elim
  | n + 1, .tuple ds, h => by
    show PyData.tuple (ds.map (tupD n)) = _
    congr 1
    have : ds.map (tupD n) = ds.map id := List.map_congr_left fun d hd => tupD_same (h.2 d hd)
    rw [this, List.map_id]
  | n + 1, .dict _, h => (show False from h).elim
  | n + 1, .none, _ => rfl
  | n + 1, .bool _, _ => rfl
  | n + 1, .int _, _ => rfl
  | n + 1, .str _, _ => rfl
/-! ### ways to write numbers and blocks -/
def encI (r : List Int) : PD := .tuple (r.map PyData.int)
def encB (b : Int × Int) : PD := .tuple [.int b.1, .int b.2]
def encF : Option (List (Int × Int)) → PD
  | none => .none
  | some bs => .tuple (bs.map encB)
theorem okT_B (b : Int × Int) : okT 2 (encB b) := ⟨(by decide : 2 ≤ 16000000), fun d hd => by
  rcases List.mem_cons.mp hd with rfl | hd
  · exact trivial
  · rw [List.mem_singleton] at hd
    subst hd
    exact trivial⟩
theorem okT_F {f : Option (List (Int × Int))} (h : ∀ bs, f = some bs → bs.length ≤ 16000000) : okT 3 (encF f) := by
  cases f with
  | none => exact trivial
  | some bs =>
    refine ⟨by rw [List.length_map]; exact h bs rfl, fun d hd => ?_⟩
    obtain ⟨b, _, rfl⟩ := List.mem_map.mp hd
    exact okT_B b
/-- of displays -/
def okAll (n : Nat) : List PD → Prop
  | [] => True
  | d :: ds => okN n d ∧ okAll n ds
theorem okAll_mem {n : Nat} : ∀ {ds : List PD}, okAll n ds → ∀ d, d ∈ ds → okN n d
  | _ :: _, h, d, hd => by
    rcases List.mem_cons.mp hd with rfl | hd
    · exact h.1
    · exact okAll_mem h.2 d hd
theorem okN_L {n : Nat} {ds : List PD} (h : okAll n ds) (hl : ds.length ≤ 16000000 := by simp) : okN (n + 1) (.list ds) := ⟨hl, okAll_mem h⟩
theorem okN_T {n : Nat} {ds : List PD} (h : okAll n ds) (hl : ds.length ≤ 16000000 := by simp) : okN (n + 1) (.tuple ds) := ⟨hl, okAll_mem h⟩
theorem zip_next {α : Type} (e : α → PD) (xs : List α) : zipD (xs.map e) (cutD (xs.map e) (some 1) none) = (xs.zip xs.tail).map fun p => .tuple [e p.1, e p.2] := by
  rw [show (some 1 : Option Int) = some ((1 : Nat) : Int) from rfl, cutD_drop, ← List.map_drop, zipD_map, List.drop_one]
theorem getLast_map {α β : Type} (f : α → β) (xs : List α) (x : α) : (xs ++ [x]).map f = xs.map f ++ [f x] := by rw [List.map_append]; rfl
end Cu

set_option Elab.async false
set_option linter.all false
set_option maxRecDepth 100000
set_option maxHeartbeats 8000000
/-! sorted of a tuple of ints -/
namespace Cu
open PySem PySem.Spec PyProof.Rows L2
theorem check_sorted (v : Value) : checkBuiltinCall "sorted" { pos := [v] } = pure () := by
  unfold checkBuiltinCall
  rw [kind_sorted]
  exact args_sorted1 v
theorem sorted_tup {P : Program} {w : World} {A : Around} {E : Value → Shared → Prop} {s : Shared} {l : Addr} {vs : List Value} {ns : List Int} {Q : Value → Shared → Prop} (hl : s.heap.IsTuple l vs.toArray) (hi : IntsAre vs ns) (hz : vs.length ≤ sizeLine)
    (then_ : ∀ (out : List Value) (h1 h' : Heap) (e : Nat), out.Perm vs → SrtO.Srtd SrtO.ltIv out → (∀ b o, s.heap.get? b = some o → h1.get? b = some o) → (∀ b o, h1.get? b = some o → h'.get? b = some o) → h'.get? h1.objs.size = some (seqObj "list" out.toArray e) → Q (.ref h1.objs.size) { s with heap := h' }) :
    wpAny (model P w) A (call (.builtin "sorted") [.ref l]) Q E s := by
  refine wpAny_call (codeAny_call_builtin plain_sorted entry_sorted ?_)
  rw [check_sorted]
  refine wpAny_pure ?_
  unfold Builtin.sorted
  refine wpAny_bind ?_
  refine wpAny_pure ?_
  refine wpAny_bind ?_
  obtain ⟨ob, atL, clsL, nL, datL⟩ := hl
  refine wpAny_collect_seq l (.inr rfl) atL clsL datL (fun h1 k1 => ?_) hz
  refine wpAny_bind ?_
  refine wpAny_newList ?_ hz
  refine wpAny_bind (wpAny_holding ?_)
  have newAt : (h1.push { cls := Value.type "list", data := Data.seq vs.toArray.toList.toArray }).get? h1.objs.size = some (seqObj "list" vs.toArray 0) := Heap.get?_push_size _ rfl
  refine wpAny_call (codeAny_call_builtin (by decide +kernel) PyProof.Rows.entry_list_sort ?_)
  refine F.slot_list_sort.check _ _ _ _ (.ref h1.objs.size) [] [] _ ⟨_, newAt, rfl⟩ (F.args_list_sort_1 _) ?_
  refine SrtO.list_sort_ord SrtO.swo_int newAt hz (fun h2 => SrtO.ints_sortable hi h2) fun out ho hp => ?_
  obtain ⟨e, he⟩ := sortedHeap_at (vs := vs) (out := out.toArray) newAt
  show wpAny _ _ (ret _) _ _ _
  refine wpAny_pure (then_ out h1 _ e hp.perm ho k1 (fun b o hb => ?_) he)
  have lt := Heap.lt_size hb
  show (sortedHeap (h1.push _) h1.objs.size vs out.toArray).get? b = _
  rw [sortedHeap_old (Nat.ne_of_lt lt) (by rw [Heap.size_push]; exact Nat.lt_succ_of_lt lt)]
  exact Heap.get?_push_of_some _ hb
theorem intsAre_map : ∀ {vs : List Value} {ns : List Int}, IntsAre vs ns → ns = vs.map SrtO.iv ∧ ∀ v, v ∈ vs → ∃ n t, v = .int n t
  | _, _, .nil => ⟨rfl, fun v h => by cases h⟩
  | _, _, .cons n t h => by
    obtain ⟨e, k⟩ := intsAre_map h
    refine ⟨by rw [e]; rfl, fun v hv => ?_⟩
    rcases List.mem_cons.mp hv with rfl | hv
    · exact ⟨n, t, rfl⟩
    · exact k v hv
theorem vals_iv : ∀ {vs : List Value}, (∀ v, v ∈ vs → ∃ n t, v = Value.int n t) → Vals ((vs.map SrtO.iv).map V.int) vs
  | [], _ => .nil
  | v :: vs, h => by
    obtain ⟨n, t, rfl⟩ := h v List.mem_cons_self
    exact .cons ⟨t, rfl⟩ (vals_iv fun u hu => h u (List.mem_cons_of_mem _ hu))
def rSortTu (K : PySem.W.Frag) : List V → Hp → VK → Prop := fun vs H Q => ∃ (a : Addr) (ns : List Int), vs = [V.ref a] ∧ SqT K H a (ns.map V.int) ∧ ∀ (ns' : List Int) (p : Addr), ns'.Perm ns → ns'.Pairwise (· ≤ ·) → H p = none → Q (.ref p) (upd H p (.lst (ns'.map V.int)))
theorem cr_sortTu {X : Cx} : CallR X (.builtin "sorted") (rSortTu X.K) := by
  intro pins s σ H vs us Q I r h
  obtain ⟨a, ns, rfl, hs, q⟩ := h
  obtain ⟨its, rv, hl, hz⟩ := I.tuple hs
  rw [Vals.ref1 r]
  have hi := intsAre_of rv
  have hz' : its.length ≤ sizeLine := by
    have := hi.length
    rw [List.length_map] at hz
    omega
  refine sorted_tup hl hi hz' fun out h1 h' e hp ho k1 k2 hat => ?_
  obtain ⟨en, kn⟩ := intsAre_map hi
  have kout : ∀ v, v ∈ out → ∃ n t, v = Value.int n t := fun v hv => kn v (hp.mem_iff.mp hv)
  have vo := vals_iv kout
  have I1 := I.kept (t' := s.toks) k1
  refine ⟨.ref h1.objs.size, _, I1.laid (t' := s.toks) (o := .lst ((out.map SrtO.iv).map V.int)) k2 (Nat.le_refl _) ⟨by rw [List.length_map, List.length_map, hp.length_eq]; exact hz', out, e, vo, hat⟩, rfl, q (out.map SrtO.iv) _ (by rw [en]; exact hp.map _) ?_ (I1.hok.fresh (Nat.le_refl _))⟩
  · rw [List.pairwise_map]
    exact ho.imp fun {x y} h => by
      have := of_decide_eq_false h
      omega
def sort2W (d : PD) (Q : DV → Prop) : Prop := ∃ ns : List Int, itemsOf d = some (ns.map PyData.int) ∧ Q (.fr ((sorts ns).map PyData.int))
theorem sort2W_m : M1 sort2W := fun h ⟨bs, e, q⟩ => ⟨bs, e, h _ q⟩
theorem sort2_ok {X : Cx} : Ca1 X (.builtin "sorted") sort2W := by
  rintro ρ σ w x d Q QQ c r ⟨ns, hd, h⟩ k
  cases d with
  | list ds =>
    cases hd
    exact sort_ok c r ⟨ns, rfl, h⟩ k
  | tuple ds =>
    cases hd
    obtain ⟨l, vs, rfl, hl, hd, _⟩ := r.tup c.ex
    rw [dpa_ints hd] at hl
    refine ⟨_, cr_sortTu, l, ns, rfl, SqT.of hl, fun ns' p h1 h2 hp => ?_⟩
    rw [sorts_is h1 h2]
    exact k.fr c hp (dpa_of_ints _) h
  | _ => cases hd
end Cu

set_option Elab.async false
set_option linter.all false
set_option maxRecDepth 100000
set_option maxHeartbeats 4000000
/-! fillings: plain mathematics of rows, blocks, what lies behind what -/
namespace Fil
abbrev Bl := Int × Int
/-- one block more -/
def stp (L : Int) (f : List Bl) (b : Bl) : List Bl := match f.getLast? with
  | none => [b]
  | some l => if b.1 - l.2 ≤ L then f.dropLast ++ [(l.1, b.2)] else f ++ [b]
def joinL (L : Int) (bs : List Bl) : List Bl := bs.foldl (stp L) []
theorem stp_nil {L : Int} {b : Bl} : stp L [] b = [b] := rfl
theorem stp_snoc {L : Int} {f : List Bl} {l b : Bl} : stp L (f ++ [l]) b = if b.1 - l.2 ≤ L then f ++ [(l.1, b.2)] else f ++ [l] ++ [b] := by
  unfold stp
  rw [List.getLast?_concat]
  show (if b.1 - l.2 ≤ L then (f ++ [l]).dropLast ++ [(l.1, b.2)] else f ++ [l] ++ [b]) = _
  rw [List.dropLast_concat]
theorem snoc_cases {α : Type} (xs : List α) : xs = [] ∨ ∃ ys y, xs = ys ++ [y] := by
  rcases List.eq_nil_or_concat xs with h | ⟨ys, y, h⟩
  · exact .inl h
  · exact .inr ⟨ys, y, by rw [h, List.concat_eq_append]⟩
/-- a step that is followed by a near one -/
theorem stp_two {L : Int} (f : List Bl) {l h : Int} {y : Bl} (hy : y.1 - h ≤ L) : stp L (stp L f (l, h)) y = stp L f (l, y.2) := by
  rcases snoc_cases f with rfl | ⟨g, z, rfl⟩
  · rw [stp_nil, stp_nil]
    have := stp_snoc (L := L) (f := []) (l := (l, h)) (b := y)
    rw [List.nil_append] at this
    rw [this, if_pos hy]
    rfl
  · rw [stp_snoc, stp_snoc]
    by_cases c : l - z.2 ≤ L
    · rw [if_pos c, if_pos c, stp_snoc, if_pos hy]
    · rw [if_neg c, if_neg c, stp_snoc, if_pos hy]
theorem join_snoc {L : Int} {bs : List Bl} {b : Bl} : joinL L (bs ++ [b]) = stp L (joinL L bs) b := by unfold joinL; rw [List.foldl_append]; rfl
theorem join_len {L : Int} (bs : List Bl) : (joinL L bs).length ≤ bs.length := by
  induction h : bs.length generalizing bs with
  | zero =>
    cases bs with
    | nil => exact Nat.le_refl _
    | cons _ _ => cases h
  | succ n ih =>
    rcases snoc_cases bs with rfl | ⟨s, x, rfl⟩
    · cases h
    · have hl : s.length = n := by rw [List.length_append] at h; simpa using h
      have := ih s hl
      rw [join_snoc]
      rcases snoc_cases (joinL L s) with hz | ⟨f, l, hz⟩
      · rw [hz, stp_nil]; simp
      · rw [hz, List.length_append, List.length_singleton] at this
        rw [hz, stp_snoc]
        split <;> simp only [List.length_append, List.length_singleton] <;> omega
theorem fold_join {L : Int} (f : List Bl) : ∀ (ys : List Bl), (joinL L ys).foldl (stp L) f = ys.foldl (stp L) f := by
  intro ys
  induction h : ys.length generalizing ys with
  | zero =>
    cases ys with
    | nil => rfl
    | cons _ _ => cases h
  | succ n ih =>
    rcases snoc_cases ys with rfl | ⟨zs, y, rfl⟩
    · cases h
    · have hl : zs.length = n := by rw [List.length_append] at h; simpa using h
      have e := ih zs hl
      have ej : joinL L (zs ++ [y]) = stp L (joinL L zs) y := by unfold joinL; rw [List.foldl_append]; rfl
      rw [ej, List.foldl_append]
      show _ = stp L (zs.foldl (stp L) f) y
      rw [← e]
      rcases snoc_cases (joinL L zs) with hz | ⟨c, l, hz⟩
      · rw [hz]; rfl
      · rw [hz, stp_snoc]
        by_cases k : y.1 - l.2 ≤ L
        · rw [if_pos k, List.foldl_append, List.foldl_append]
          show stp L (c.foldl (stp L) f) (l.1, y.2) = stp L (stp L (c.foldl (stp L) f) l) y
          exact (stp_two _ k).symm
        · rw [if_neg k, List.foldl_append (l := c ++ [l])]
          rfl
theorem join_join {L : Int} (ys : List Bl) : joinL L (joinL L ys) = joinL L ys := fold_join [] ys
/-- points -/
def pts (ns : List Int) : List Bl := ns.map fun x => (x, x)
def J (L : Int) (ns : List Int) : List Bl := joinL L (pts ns)
theorem J_nil {L : Int} : J L [] = [] := rfl
theorem J_snoc {L : Int} {ns : List Int} {x : Int} : J L (ns ++ [x]) = stp L (J L ns) (x, x) := by
  unfold J joinL pts
  rw [List.map_append, List.foldl_append]
  rfl
theorem J_app {L : Int} {ns ms : List Int} : J L (ns ++ ms) = (pts ms).foldl (stp L) (J L ns) := by
  unfold J joinL pts
  rw [List.map_append, List.foldl_append]
def up (ns : List Int) : Prop := ns.Pairwise (· < ·)
theorem up_snoc {ns : List Int} {x : Int} (h : up (ns ++ [x])) : up ns ∧ ∀ y, y ∈ ns → y < x := by
  unfold up at h
  rw [List.pairwise_append] at h
  exact ⟨h.1, fun y hy => h.2.2 y hy x (List.mem_singleton.mpr rfl)⟩
theorem snoc_up {ns : List Int} {x : Int} (h : up ns) (h2 : ∀ y, y ∈ ns → y < x) : up (ns ++ [x]) := by
  unfold up
  rw [List.pairwise_append]
  exact ⟨h, List.pairwise_singleton _ _, fun y hy z hz => by rw [List.mem_singleton] at hz; subst hz; exact h2 y hy⟩
/-- blocks that lie apart -/
def apart (L : Int) (bs : List Bl) : Prop := bs.Pairwise (fun a b => a.2 + L < b.1) ∧ ∀ b, b ∈ bs → b.1 ≤ b.2
def inB (bs : List Bl) (x : Int) : Prop := ∃ b, b ∈ bs ∧ b.1 ≤ x ∧ x ≤ b.2
def cl (L : Int) (T : Int → Prop) (x : Int) : Prop := ∃ p q, T p ∧ T q ∧ p ≤ x ∧ x ≤ q ∧ q - p ≤ L
/-- what the blocks of points are -/
theorem J_is {L : Int} (hL : 0 ≤ L) : ∀ (ns : List Int), up ns → apart L (J L ns) ∧ (∀ x, inB (J L ns) x ↔ cl L (· ∈ ns) x) ∧ (∀ x ms, ns = ms ++ [x] → ∃ c l, J L ns = c ++ [(l, x)]) ∧ (ns = [] ↔ J L ns = []) ∧ (∀ x ms, ns = x :: ms → ∃ h c, J L ns = (x, h) :: c) := by
  intro ns
  induction h : ns.length generalizing ns with
  | zero =>
    intro _
    cases ns with
    | nil =>
      refine ⟨⟨List.Pairwise.nil, fun b hb => by cases hb⟩, fun x => ⟨fun ⟨b, hb, _⟩ => (by cases hb), fun ⟨p, q, hp, _⟩ => by cases hp⟩, fun x ms h => ?_, ⟨fun _ => rfl, fun _ => rfl⟩, fun x ms h => by cases h⟩
      cases ms <;> cases h
    | cons _ _ => cases h
  | succ n ih =>
    intro hu
    rcases snoc_cases ns with rfl | ⟨ms, x, rfl⟩
    · cases h
    · have hl : ms.length = n := by rw [List.length_append] at h; simpa using h
      obtain ⟨hu1, hlt⟩ := up_snoc hu
      obtain ⟨⟨ap1, ap2⟩, hin, hlast, hnil, hhead⟩ := ih ms hl hu1
      rw [J_snoc]
      rcases snoc_cases ms with rfl | ⟨ks, y, rfl⟩
      · rw [J_nil, stp_nil]
        refine ⟨⟨List.pairwise_singleton _ _, fun b hb => by rw [List.mem_singleton] at hb; subst hb; exact Int.le_refl _⟩, fun z => ⟨fun ⟨b, hb, h1, h2⟩ => ?_, fun ⟨p, q, hp, hq, h1, h2, _⟩ => ?_⟩, fun z zs hz => ?_, ⟨fun h => (by cases h), fun h => (by cases h)⟩, fun z zs hz => ?_⟩
        · rw [List.mem_singleton] at hb
          subst hb
          exact ⟨x, x, List.mem_singleton.mpr rfl, List.mem_singleton.mpr rfl, h1, h2, by omega⟩
        · rw [List.nil_append, List.mem_singleton] at hp hq
          exact ⟨(x, x), List.mem_singleton.mpr rfl, (by rw [hp] at h1; exact h1), (by rw [hq] at h2; exact h2)⟩
        · have := List.append_inj' hz rfl
          obtain ⟨_, e⟩ := this
          cases e
          exact ⟨[], x, rfl⟩
        · cases hz
          exact ⟨x, [], rfl⟩
      · obtain ⟨c, l, hc⟩ := hlast y ks rfl
        have hyx : y < x := hlt y (List.mem_append_right _ (List.mem_singleton.mpr rfl))
        have hly : l ≤ y := ap2 (l, y) (by rw [hc]; exact List.mem_append_right _ (List.mem_singleton.mpr rfl))
        have hmem : ∀ z, z ∈ ks ++ [y] → z ≤ y := fun z hz => by
          rw [List.mem_append, List.mem_singleton] at hz
          rcases hz with hz | rfl
          · exact Int.le_of_lt ((up_snoc hu1).2 z hz)
          · exact Int.le_refl _
        rw [hc, stp_snoc]
        rw [hc] at ap1 ap2 hin hnil hhead
        rw [List.pairwise_append] at ap1
        have inc : ∀ z, inB (c ++ [(l, y)]) z ↔ (inB c z ∨ (l ≤ z ∧ z ≤ y)) := fun z => by
          constructor
          · rintro ⟨b, hb, h1, h2⟩
            rw [List.mem_append, List.mem_singleton] at hb
            rcases hb with hb | rfl
            · exact .inl ⟨b, hb, h1, h2⟩
            · exact .inr ⟨h1, h2⟩
          · rintro (⟨b, hb, h1, h2⟩ | ⟨h1, h2⟩)
            · exact ⟨b, List.mem_append_left _ hb, h1, h2⟩
            · exact ⟨(l, y), List.mem_append_right _ (List.mem_singleton.mpr rfl), h1, h2⟩
        have ny : y ∈ ks ++ [y] := List.mem_append_right _ (List.mem_singleton.mpr rfl)
        have nx : x ∈ ks ++ [y] ++ [x] := List.mem_append_right _ (List.mem_singleton.mpr rfl)
        have nl : ∀ z, z ∈ ks ++ [y] → z ∈ ks ++ [y] ++ [x] := fun z hz => List.mem_append_left _ hz
        have nr : ∀ z, z ∈ ks ++ [y] ++ [x] → z ∈ ks ++ [y] ∨ z = x := fun z hz => by
          rw [List.mem_append, List.mem_singleton] at hz; exact hz
        show apart L (if x - y ≤ L then c ++ [(l, x)] else c ++ [(l, y)] ++ [(x, x)]) ∧ (∀ z, inB (if x - y ≤ L then c ++ [(l, x)] else c ++ [(l, y)] ++ [(x, x)]) z ↔ _) ∧ (∀ z zs, _ → ∃ c' l', (if x - y ≤ L then c ++ [(l, x)] else c ++ [(l, y)] ++ [(x, x)]) = _) ∧ (_ ↔ (if x - y ≤ L then c ++ [(l, x)] else c ++ [(l, y)] ++ [(x, x)]) = _) ∧ (∀ z zs, _ → ∃ h' c', (if x - y ≤ L then c ++ [(l, x)] else c ++ [(l, y)] ++ [(x, x)]) = _)
        by_cases k : x - y ≤ L
        · rw [if_pos k]
          refine ⟨⟨?_, ?_⟩, fun z => ?_, fun z zs hz => ?_, ⟨fun h => ?_, fun h => ?_⟩, fun z zs hz => ?_⟩
          · rw [List.pairwise_append]
            exact ⟨ap1.1, List.pairwise_singleton _ _, fun a ha b hb => by
              rw [List.mem_singleton] at hb
              subst hb
              exact ap1.2.2 a ha (l, y) (List.mem_singleton.mpr rfl)⟩
          · intro b hb
            rw [List.mem_append, List.mem_singleton] at hb
            rcases hb with hb | rfl
            · exact ap2 b (List.mem_append_left _ hb)
            · show l ≤ x
              omega
          · have e1 : inB (c ++ [(l, x)]) z ↔ (inB c z ∨ (l ≤ z ∧ z ≤ x)) := by
              constructor
              · rintro ⟨b, hb, h1, h2⟩
                rw [List.mem_append, List.mem_singleton] at hb
                rcases hb with hb | rfl
                · exact .inl ⟨b, hb, h1, h2⟩
                · exact .inr ⟨h1, h2⟩
              · rintro (⟨b, hb, h1, h2⟩ | ⟨h1, h2⟩)
                · exact ⟨b, List.mem_append_left _ hb, h1, h2⟩
                · exact ⟨(l, x), List.mem_append_right _ (List.mem_singleton.mpr rfl), h1, h2⟩
            rw [e1]
            constructor
            · intro h
              by_cases hz : y < z
              · rcases h with ⟨b, hb, h1, h2⟩ | ⟨h1, h2⟩
                · have := ap1.2.2 b hb (l, y) (List.mem_singleton.mpr rfl)
                  have : b.2 + L < l := this
                  omega
                · exact ⟨y, x, nl y ny, nx, by omega, h2, k⟩
              · have : inB (c ++ [(l, y)]) z := (inc z).mpr (by
                  rcases h with h | ⟨h1, h2⟩
                  · exact .inl h
                  · exact .inr ⟨h1, by omega⟩)
                obtain ⟨p, q, hp, hq, r⟩ := (hin z).mp this
                exact ⟨p, q, nl p hp, nl q hq, r⟩
            · rintro ⟨p, q, hp, hq, h1, h2, h3⟩
              by_cases hz : y < z
              · right
                refine ⟨by omega, ?_⟩
                rcases nr q hq with hq | rfl
                · have := hmem q hq
                  omega
                · exact h2
              · have hp' : p ∈ ks ++ [y] := by
                  rcases nr p hp with hp | rfl
                  · exact hp
                  · omega
                have : inB (c ++ [(l, y)]) z := (hin z).mpr (by
                  rcases nr q hq with hq | rfl
                  · exact ⟨p, q, hp', hq, h1, h2, h3⟩
                  · exact ⟨p, y, hp', ny, h1, by omega, by omega⟩)
                rcases (inc z).mp this with h | ⟨h1, h2⟩
                · exact .inl h
                · exact .inr ⟨h1, by omega⟩
          · obtain ⟨_, e⟩ := List.append_inj' hz rfl
            cases e
            exact ⟨c, l, rfl⟩
          · cases ks <;> cases h
          · cases c <;> cases h
          · cases ks with
            | nil =>
              cases hz
              obtain ⟨h', c', e⟩ := hhead y [] rfl
              cases c with
              | nil => cases e; exact ⟨x, [], rfl⟩
              | cons a c => cases e; exact ⟨_, _, rfl⟩
            | cons k0 ks =>
              cases hz
              obtain ⟨h', c', e⟩ := hhead z (ks ++ [y]) rfl
              cases c with
              | nil => cases e; exact ⟨x, [], rfl⟩
              | cons a c => cases e; exact ⟨_, _, rfl⟩
        · rw [if_neg k]
          refine ⟨⟨?_, ?_⟩, fun z => ?_, fun z zs hz => ?_, ⟨fun h => ?_, fun h => ?_⟩, fun z zs hz => ?_⟩
          · rw [List.pairwise_append]
            refine ⟨by rw [List.pairwise_append]; exact ap1, List.pairwise_singleton _ _, fun a ha b hb => ?_⟩
            rw [List.mem_singleton] at hb
            subst hb
            rw [List.mem_append, List.mem_singleton] at ha
            show a.2 + L < x
            rcases ha with ha | rfl
            · have := ap1.2.2 a ha (l, y) (List.mem_singleton.mpr rfl)
              have : a.2 + L < l := this
              omega
            · show y + L < x
              omega
          · intro b hb
            rw [List.mem_append, List.mem_singleton] at hb
            rcases hb with hb | rfl
            · exact ap2 b hb
            · exact Int.le_refl _
          · have e1 : inB (c ++ [(l, y)] ++ [(x, x)]) z ↔ (inB (c ++ [(l, y)]) z ∨ z = x) := by
              constructor
              · rintro ⟨b, hb, h1, h2⟩
                rw [List.mem_append, List.mem_singleton] at hb
                rcases hb with hb | rfl
                · exact .inl ⟨b, hb, h1, h2⟩
                · exact .inr (Int.le_antisymm h2 h1)
              · rintro (⟨b, hb, h1, h2⟩ | rfl)
                · exact ⟨b, List.mem_append_left _ hb, h1, h2⟩
                · exact ⟨(z, z), List.mem_append_right _ (List.mem_singleton.mpr rfl), Int.le_refl _, Int.le_refl _⟩
            rw [e1, hin]
            constructor
            · rintro (⟨p, q, hp, hq, r⟩ | rfl)
              · exact ⟨p, q, nl p hp, nl q hq, r⟩
              · exact ⟨z, z, nx, nx, Int.le_refl _, Int.le_refl _, by omega⟩
            · rintro ⟨p, q, hp, hq, h1, h2, h3⟩
              rcases nr p hp with hp' | ep
              · rcases nr q hq with hq' | eq
                · exact .inl ⟨p, q, hp', hq', h1, h2, h3⟩
                · have := hmem p hp'
                  omega
              · rcases nr q hq with hq' | eq
                · have := hmem q hq'
                  omega
                · exact .inr (by omega)
          · obtain ⟨_, e⟩ := List.append_inj' hz rfl
            cases e
            exact ⟨c ++ [(l, y)], x, rfl⟩
          · cases ks <;> cases h
          · cases c <;> cases h
          · cases ks with
            | nil =>
              cases hz
              obtain ⟨h', c', e⟩ := hhead y [] rfl
              cases c with
              | nil => cases e; exact ⟨_, _, rfl⟩
              | cons a c => cases e; exact ⟨_, _, rfl⟩
            | cons k0 ks =>
              cases hz
              obtain ⟨h', c', e⟩ := hhead z (ks ++ [y]) rfl
              cases c with
              | nil => cases e; exact ⟨_, _, rfl⟩
              | cons a c => cases e; exact ⟨_, _, rfl⟩
end Fil

set_option Elab.async false
set_option linter.all false
set_option maxRecDepth 100000
set_option maxHeartbeats 4000000
namespace Fil
theorem lt1 {m x : Int} (h : x < m) : List.filter (fun x => decide (x < m)) [x] = [x] := List.filter_cons_of_pos (decide_eq_true h)
theorem lt0 {m x : Int} (h : ¬ x < m) : List.filter (fun x => decide (x < m)) [x] = [] := List.filter_cons_of_neg (by rw [decide_eq_false h]; exact fun z => nomatch z)
/-! ### records -/
def recStp (f : List Int) (x : Int) : List Int := match f.getLast? with
  | none => [x]
  | some l => if x < l then f ++ [x] else f
def recs (r : List Int) : List Int := r.foldl recStp []
theorem recStp_nil {x : Int} : recStp [] x = [x] := rfl
theorem recStp_snoc {f : List Int} {l x : Int} : recStp (f ++ [l]) x = if x < l then f ++ [l] ++ [x] else f ++ [l] := by
  unfold recStp
  rw [List.getLast?_concat]
theorem recs_snoc {r : List Int} {x : Int} : recs (r ++ [x]) = recStp (recs r) x := by
  unfold recs
  rw [List.foldl_append]
  rfl
theorem recs_len (r : List Int) : (recs r).length ≤ r.length := by
  induction h : r.length generalizing r with
  | zero =>
    cases r with
    | nil => exact Nat.le_refl _
    | cons _ _ => cases h
  | succ n ih =>
    rcases snoc_cases r with rfl | ⟨s, x, rfl⟩
    · cases h
    · have hl : s.length = n := by rw [List.length_append] at h; simpa using h
      have := ih s hl
      rw [recs_snoc]
      unfold recStp
      split
      · simp
      · split
        · rw [List.length_append]; simp only [List.length_singleton]; omega
        · omega
def down (ns : List Int) : Prop := ns.Pairwise (fun a b => b < a)
theorem recs_is : ∀ (r : List Int), down (recs r) ∧ (∀ x, x ∈ recs r → x ∈ r) ∧ (recs r = [] ↔ r = []) ∧ (∀ f l, recs r = f ++ [l] → ∀ x, x ∈ r → l ≤ x) := by
  intro r
  induction h : r.length generalizing r with
  | zero =>
    cases r with
    | nil => exact ⟨List.Pairwise.nil, (fun _ h => h), ⟨fun _ => rfl, fun _ => rfl⟩, fun f l h => by cases f <;> cases h⟩
    | cons _ _ => cases h
  | succ n ih =>
    rcases snoc_cases r with rfl | ⟨s, x, rfl⟩
    · cases h
    · have hl : s.length = n := by rw [List.length_append] at h; simpa using h
      obtain ⟨h1, h2, h3, h4⟩ := ih s hl
      rw [recs_snoc]
      have hx : x ∈ s ++ [x] := List.mem_append_right _ (List.mem_singleton.mpr rfl)
      rcases snoc_cases (recs s) with hz | ⟨f, l, hz⟩
      · rw [hz, recStp_nil]
        have hs := h3.mp hz
        subst hs
        refine ⟨List.pairwise_singleton _ _, fun y hy => hy, ⟨fun h => (by cases h), fun h => (by cases h)⟩, fun f l e y hy => ?_⟩
        obtain ⟨_, e2⟩ := List.append_inj' (show ([] : List Int) ++ [x] = f ++ [l] from e) rfl
        cases e2
        rw [List.nil_append, List.mem_singleton] at hy
        omega
      · rw [hz, recStp_snoc]
        have hlx := h4 f l hz
        rw [hz] at h1 h2 h3
        by_cases k : x < l
        · rw [if_pos k]
          refine ⟨?_, fun y hy => ?_, ⟨fun h => (by cases f <;> cases h), fun h => (by cases s <;> cases h)⟩, fun g m e y hy => ?_⟩
          · unfold down
            rw [List.pairwise_append]
            refine ⟨h1, List.pairwise_singleton _ _, fun a ha b hb => ?_⟩
            rw [List.mem_singleton] at hb
            subst hb
            unfold down at h1
            rw [List.pairwise_append] at h1
            rw [List.mem_append, List.mem_singleton] at ha
            rcases ha with ha | rfl
            · have := h1.2.2 a ha l (List.mem_singleton.mpr rfl)
              omega
            · exact k
          · rw [List.mem_append, List.mem_singleton] at hy
            rcases hy with hy | rfl
            · exact List.mem_append_left _ (h2 y hy)
            · exact hx
          · obtain ⟨_, e2⟩ := List.append_inj' e rfl
            cases e2
            rw [List.mem_append, List.mem_singleton] at hy
            rcases hy with hy | rfl
            · have := hlx y hy
              omega
            · omega
        · rw [if_neg k]
          refine ⟨h1, fun y hy => List.mem_append_left _ (h2 y hy), ⟨fun h => (by cases f <;> cases h), fun h => (by cases s <;> cases h)⟩, fun g m e y hy => ?_⟩
          obtain ⟨_, e2⟩ := List.append_inj' e rfl
          cases e2
          rw [List.mem_append, List.mem_singleton] at hy
          rcases hy with hy | rfl
          · exact hlx y hy
          · omega
theorem down_last {f : List Int} {l : Int} (h : down (f ++ [l])) : ∀ y, y ∈ f ++ [l] → l ≤ y := fun y hy => by
  unfold down at h
  rw [List.pairwise_append] at h
  rw [List.mem_append, List.mem_singleton] at hy
  rcases hy with hy | rfl
  · exact Int.le_of_lt (h.2.2 y hy l (List.mem_singleton.mpr rfl))
  · exact Int.le_refl _
theorem recs_from (f : List Int) (m : Int) : ∀ (r : List Int), r.foldl recStp (f ++ [m]) = f ++ [m] ++ (recs r).filter (fun x => decide (x < m)) := by
  intro r
  induction h : r.length generalizing r with
  | zero =>
    cases r with
    | nil => exact (List.append_nil _).symm
    | cons _ _ => cases h
  | succ n ih =>
    rcases snoc_cases r with rfl | ⟨s, x, rfl⟩
    · cases h
    · have hl : s.length = n := by rw [List.length_append] at h; simpa using h
      rw [List.foldl_append, ih s hl, recs_snoc]
      show recStp _ x = _
      rcases snoc_cases (recs s) with hz | ⟨g, l, hz⟩
      · rw [hz, recStp_nil]
        show recStp (f ++ [m] ++ []) x = f ++ [m] ++ List.filter _ [x]
        rw [List.append_nil, recStp_snoc]
        by_cases k : x < m
        · rw [if_pos k, lt1 k]
        · rw [if_neg k, lt0 k, List.append_nil]
      · have hd := (recs_is s).1
        rw [hz] at hd
        have hlast := down_last hd
        rw [hz, recStp_snoc]
        by_cases km : l < m
        · have ef : (g ++ [l]).filter (fun x => decide (x < m)) = g.filter (fun x => decide (x < m)) ++ [l] := by
            rw [List.filter_append, lt1 km]
          rw [ef, ← List.append_assoc, recStp_snoc]
          by_cases k : x < l
          · rw [if_pos k, if_pos k, List.filter_append, ef, lt1 (by omega)]
            simp only [List.append_assoc]
          · rw [if_neg k, if_neg k, ef]; simp only [List.append_assoc]
        · have ef : (g ++ [l]).filter (fun x => decide (x < m)) = [] := by
            rw [List.filter_eq_nil_iff]
            intro y hy
            have := hlast y hy
            rw [decide_eq_false (by omega)]
            exact fun z => nomatch z
          rw [ef, List.append_nil, recStp_snoc]
          by_cases k : x < l
          · rw [if_pos k, List.filter_append, ef]
            by_cases k2 : x < m
            · rw [if_pos k2, lt1 k2]; rfl
            · rw [if_neg k2, lt0 k2]; exact (List.append_nil _).symm
          · rw [if_neg k, if_neg (by omega), ef, List.append_nil]
def asc (r : List Int) : List Int := (recs r).reverse
theorem asc_up (r : List Int) : up (asc r) := by
  unfold up asc
  rw [List.pairwise_reverse]
  exact (recs_is r).1
theorem asc_sub {r : List Int} {x : Int} (h : x ∈ asc r) : x ∈ r := (recs_is r).2.1 x (List.mem_reverse.mp h)
theorem asc_nil {r : List Int} : asc r = [] ↔ r = [] := by
  unfold asc
  rw [List.reverse_eq_nil_iff]
  exact (recs_is r).2.2.1
theorem asc_head {r : List Int} {b : Int} {t : List Int} (h : asc r = b :: t) : recs r = t.reverse ++ [b] := by
  unfold asc at h
  have := congrArg List.reverse h
  rw [List.reverse_reverse, List.reverse_cons] at this
  exact this
theorem asc_min {r : List Int} {b : Int} {t : List Int} (h : asc r = b :: t) : ∀ x, x ∈ r → b ≤ x := (recs_is r).2.2.2 _ _ (asc_head h)
theorem asc_app {r s : List Int} {b : Int} {t : List Int} (h : asc r = b :: t) : asc (r ++ s) = (asc s).filter (fun x => decide (x < b)) ++ asc r := by
  have e : recs (r ++ s) = recs r ++ (recs s).filter (fun x => decide (x < b)) := by
    show (r ++ s).foldl recStp [] = _
    rw [List.foldl_append]
    show s.foldl recStp (recs r) = _
    rw [asc_head h]
    exact recs_from _ _ _
  unfold asc
  rw [e, List.reverse_append, List.filter_reverse]
theorem asc_nilL {s : List Int} : asc ([] ++ s) = asc s := rfl

/-! ### fillings of rows -/
def lone (L : Int) (r : List Int) : Bool := r.any fun x => decide (x < 2 * L)
def fillF (L : Int) (r : List Int) : Option (List Bl) := if lone L r then none else some (J L (asc r))
def trunc (b : Int) (g : List Bl) : List Bl := (g.filter fun q => decide (q.1 < b)).map fun q => (q.1, min q.2 (b - 1))
def beh (L : Int) : Option (List Bl) → Option (List Bl) → Option (List Bl)
  | some [], some g => some g
  | some (a :: f), some g => some (joinL L (trunc a.1 g ++ (a :: f)))
  | _, _ => none
theorem trunc_app {b : Int} {f g : List Bl} : trunc b (f ++ g) = trunc b f ++ trunc b g := by
  unfold trunc
  rw [List.filter_append, List.map_append]
theorem trunc_one {b : Int} {q : Bl} : trunc b [q] = if q.1 < b then [(q.1, min q.2 (b - 1))] else [] := by
  unfold trunc
  by_cases h : q.1 < b
  · have e : List.filter (fun q : Bl => decide (q.1 < b)) [q] = [q] := List.filter_cons_of_pos (decide_eq_true h)
    rw [if_pos h, e]; rfl
  · have e : List.filter (fun q : Bl => decide (q.1 < b)) [q] = [] := List.filter_cons_of_neg (by rw [decide_eq_false h]; exact fun z => nomatch z)
    rw [if_neg h, e]; rfl
theorem trunc_low {b : Int} : ∀ {g : List Bl}, (∀ q, q ∈ g → q.1 ≤ q.2 ∧ q.2 < b) → trunc b g = g
  | [], _ => rfl
  | q :: g, h => by
    have hq := h q List.mem_cons_self
    have e : trunc b (q :: g) = trunc b ([q] ++ g) := rfl
    rw [e, trunc_app, trunc_one, if_pos (by omega), trunc_low (g := g) fun z hz => h z (List.mem_cons_of_mem _ hz), Int.min_eq_left (by omega)]
    rfl
theorem join_apart {L : Int} : ∀ (bs : List Bl), apart L bs → joinL L bs = bs := by
  intro bs
  induction h : bs.length generalizing bs with
  | zero =>
    intro _
    cases bs with
    | nil => rfl
    | cons _ _ => cases h
  | succ n ih =>
    intro ap
    rcases snoc_cases bs with rfl | ⟨c, x, rfl⟩
    · rfl
    · have hl : c.length = n := by rw [List.length_append] at h; simpa using h
      have ap' := ap
      obtain ⟨p1, p2⟩ := ap
      rw [List.pairwise_append] at p1
      have e : joinL L (c ++ [x]) = stp L (joinL L c) x := by unfold joinL; rw [List.foldl_append]; rfl
      rw [e, ih c hl ⟨p1.1, fun b hb => p2 b (List.mem_append_left _ hb)⟩]
      rcases snoc_cases c with rfl | ⟨d, y, rfl⟩
      · rfl
      · rw [stp_snoc, if_neg]
        have := p1.2.2 y (List.mem_append_right _ (List.mem_singleton.mpr rfl)) x (List.mem_singleton.mpr rfl)
        omega
theorem trunc_apart {L b : Int} {g : List Bl} (h : apart L g) : apart L (trunc b g) := by
  constructor
  · unfold trunc
    rw [List.pairwise_map]
    refine (h.1.filter _).imp fun {x y} hxy => ?_
    show min x.2 (b - 1) + L < y.1
    have := Int.min_le_left x.2 (b - 1)
    omega
  · intro q hq
    unfold trunc at hq
    obtain ⟨z, hz, rfl⟩ := List.mem_map.mp hq
    obtain ⟨hz1, hz2⟩ := List.mem_filter.mp hz
    have := of_decide_eq_true hz2
    have h2 := h.2 z hz1
    show z.1 ≤ min z.2 (b - 1)
    exact Int.le_min.mpr ⟨h2, by omega⟩
/-- all of the points below b: so are the blocks -/
theorem J_low {L b : Int} (hL : 0 ≤ L) {A : List Int} (hu : up A) (h : ∀ x, x ∈ A → x < b) : ∀ q, q ∈ J L A → q.1 ≤ q.2 ∧ q.2 < b := fun q hq => by
  obtain ⟨ap, hin, _⟩ := J_is hL A hu
  have h1 := ap.2 q hq
  obtain ⟨p, z, _, hz, _, h3, _⟩ := (hin q.2).mp ⟨q, hq, h1, Int.le_refl _⟩
  have := h z hz
  exact ⟨h1, by omega⟩
theorem filter_low {b : Int} {A : List Int} (h : ∀ x, x ∈ A → x < b) : A.filter (fun x => decide (x < b)) = A := List.filter_eq_self.mpr fun x hx => decide_eq_true (h x hx)
theorem trunc_J {L b : Int} (hL : 1 ≤ L) : ∀ (A : List Int), up A → trunc b (J L A) = J L (A.filter fun x => decide (x < b)) ∨ ∃ c l h, J L (A.filter fun x => decide (x < b)) = c ++ [(l, h)] ∧ trunc b (J L A) = c ++ [(l, b - 1)] ∧ b - h ≤ L := by
  intro A
  induction h : A.length generalizing A with
  | zero =>
    intro _
    cases A with
    | nil => exact .inl rfl
    | cons _ _ => cases h
  | succ n ih =>
    intro hu
    rcases snoc_cases A with rfl | ⟨M, x, rfl⟩
    · exact .inl rfl
    · have hl : M.length = n := by rw [List.length_append] at h; simpa using h
      obtain ⟨hu1, hlt⟩ := up_snoc hu
      by_cases hx : x < b
      · have hall : ∀ y, y ∈ M ++ [x] → y < b := fun y hy => by
          rw [List.mem_append, List.mem_singleton] at hy
          rcases hy with hy | rfl
          · have := hlt y hy
            omega
          · exact hx
        rw [filter_low hall]
        exact .inl (trunc_low (J_low (by omega) hu hall))
      · have ef : (M ++ [x]).filter (fun x => decide (x < b)) = M.filter fun x => decide (x < b) := by
          rw [List.filter_append, lt0 hx, List.append_nil]
        rw [ef, J_snoc]
        have ihM := ih M hl hu1
        rcases snoc_cases M with rfl | ⟨K, y, rfl⟩
        · left
          rw [J_nil, stp_nil, trunc_one, if_neg hx]
          rfl
        · obtain ⟨ap, hin, hlast, _⟩ := J_is (L := L) (by omega) (K ++ [y]) hu1
          obtain ⟨c, l, hc⟩ := hlast y K rfl
          have hly : l ≤ y := ap.2 (l, y) (by rw [hc]; exact List.mem_append_right _ (List.mem_singleton.mpr rfl))
          rw [hc, stp_snoc]
          rw [hc, trunc_app, trunc_one] at ihM
          show trunc b (if x - y ≤ L then c ++ [(l, x)] else c ++ [(l, y)] ++ [(x, x)]) = _ ∨ ∃ c' l' h', _ = _ ∧ trunc b (if x - y ≤ L then c ++ [(l, x)] else c ++ [(l, y)] ++ [(x, x)]) = _ ∧ _
          by_cases k : x - y ≤ L
          · rw [if_pos k, trunc_app, trunc_one]
            by_cases hlb : l < b
            · rw [if_pos hlb]
              rw [if_pos hlb] at ihM
              show trunc b c ++ [(l, min x (b - 1))] = _ ∨ ∃ c' l' h', _ = _ ∧ trunc b c ++ [(l, min x (b - 1))] = _ ∧ _
              rw [Int.min_eq_right (by omega)]
              by_cases hyb : y < b
              · have hall : ∀ z, z ∈ K ++ [y] → z < b := fun z hz => by
                  rw [List.mem_append, List.mem_singleton] at hz
                  rcases hz with hz | rfl
                  · have := (up_snoc hu1).2 z hz
                    omega
                  · exact hyb
                right
                rw [filter_low hall]
                have hlow := J_low (L := L) (by omega) hu1 hall
                rw [hc] at hlow
                exact ⟨c, l, y, hc, by rw [trunc_low fun q hq => hlow q (List.mem_append_left _ hq)], by omega⟩
              · have e : ((l, min (l, y).2 (b - 1)) : Bl) = (l, b - 1) := by
                  show (l, min y (b - 1)) = _
                  rw [Int.min_eq_right (by omega)]
                have ihM : trunc b c ++ [((l, min (l, y).2 (b - 1)) : Bl)] = _ ∨ ∃ c' l' h', _ = _ ∧ trunc b c ++ [((l, min (l, y).2 (b - 1)) : Bl)] = _ ∧ _ := ihM
                rw [e] at ihM
                exact ihM
            · rw [if_neg hlb]
              rw [if_neg hlb] at ihM
              exact ihM
          · rw [if_neg k, trunc_app, trunc_app, trunc_one, trunc_one, if_neg hx, List.append_nil]
            exact ihM
theorem beh_rows {L : Int} (hL : 1 ≤ L) (r s : List Int) : beh L (fillF L r) (fillF L s) = fillF L (r ++ s) := by
  have el : lone L (r ++ s) = (lone L r || lone L s) := by unfold lone; rw [List.any_append]
  unfold fillF
  rw [el]
  cases h1 : lone L r with
  | true => rfl
  | false =>
    cases h2 : lone L s with
    | true =>
      show beh L (some (J L (asc r))) none = none
      cases J L (asc r) <;> rfl
    | false =>
      show beh L (some (J L (asc r))) (some (J L (asc s))) = some (J L (asc (r ++ s)))
      cases ha : asc r with
      | nil =>
        have := asc_nil.mp ha
        subst this
        rfl
      | cons b t =>
        have hu := asc_up r
        rw [ha] at hu
        obtain ⟨hd, c, hj⟩ := (J_is (L := L) (by omega) (b :: t) hu).2.2.2.2 b t rfl
        rw [asc_app ha, ha, hj]
        show some (joinL L (trunc b (J L (asc s)) ++ ((b, hd) :: c))) = _
        congr 1
        have e1 : joinL L (trunc b (J L (asc s)) ++ ((b, hd) :: c)) = (J L (b :: t)).foldl (stp L) (trunc b (J L (asc s))) := by
          rw [← hj]
          show (trunc b (J L (asc s)) ++ J L (b :: t)).foldl (stp L) [] = _
          rw [List.foldl_append]
          show (J L (b :: t)).foldl (stp L) (joinL L (trunc b (J L (asc s)))) = _
          rw [join_apart _ (trunc_apart (J_is (L := L) (by omega) (asc s) (asc_up s)).1)]
        rw [e1, J_app]
        show (joinL L (pts (b :: t))).foldl (stp L) _ = _
        rw [fold_join]
        show (pts t).foldl (stp L) (stp L (trunc b (J L (asc s))) (b, b)) = (pts t).foldl (stp L) (stp L (J L ((asc s).filter fun x => decide (x < b))) (b, b))
        congr 1
        rcases trunc_J (b := b) hL (asc s) (asc_up s) with e | ⟨c', l', h', e1, e2, e3⟩
        · rw [e]
        · rw [e1, e2, stp_snoc, stp_snoc, if_pos (show b - (b - 1) ≤ L by omega), if_pos e3]
end Fil

set_option Elab.async false
set_option linter.all false
set_option maxRecDepth 100000
set_option maxHeartbeats 4000000
namespace Fil
open Cu
/-! ### by sets -/
theorem up_range (lo hi : Int) : up (rangeL lo hi) := by
  unfold up rangeL
  rw [List.pairwise_map]
  exact (List.pairwise_lt_range).imp fun h => by omega
def expand (bs : List Bl) : List Int := bs.flatMap fun b => rangeL b.1 (b.2 + 1)
theorem expand_mem {bs : List Bl} {x : Int} : x ∈ expand bs ↔ inB bs x := by
  unfold expand inB
  rw [List.mem_flatMap]
  constructor
  · rintro ⟨b, hb, h⟩
    rw [rangeL_mem] at h
    exact ⟨b, hb, h.1, by omega⟩
  · rintro ⟨b, hb, h1, h2⟩
    exact ⟨b, hb, rangeL_mem.mpr ⟨h1, by omega⟩⟩
theorem expand_up {L : Int} (hL : 0 ≤ L) : ∀ {bs : List Bl}, apart L bs → up (expand bs)
  | [], _ => List.Pairwise.nil
  | b :: bs, h => by
    have hp := List.pairwise_cons.mp h.1
    show up (rangeL b.1 (b.2 + 1) ++ expand bs)
    unfold up
    rw [List.pairwise_append]
    refine ⟨up_range _ _, expand_up hL ⟨hp.2, fun c hc => h.2 c (List.mem_cons_of_mem _ hc)⟩, fun x hx y hy => ?_⟩
    rw [rangeL_mem] at hx
    obtain ⟨c, hc, h1, h2⟩ := expand_mem.mp hy
    have := hp.1 c hc
    omega
def bStp (f : List Bl) (x : Int) : List Bl := match f.getLast? with
  | none => [(x, x)]
  | some l => if l.2 = x - 1 then f.dropLast ++ [(l.1, x)] else f ++ [(x, x)]
def blocksOf (ns : List Int) : List Bl := ns.foldl bStp []
theorem bStp_snoc {f : List Bl} {l : Bl} {x : Int} : bStp (f ++ [l]) x = if l.2 = x - 1 then f ++ [(l.1, x)] else f ++ [l] ++ [(x, x)] := by
  unfold bStp
  rw [List.getLast?_concat]
  show (if l.2 = x - 1 then (f ++ [l]).dropLast ++ [(l.1, x)] else f ++ [l] ++ [(x, x)]) = _
  rw [List.dropLast_concat]
theorem range_cons {lo hi : Int} (h : lo < hi) : rangeL lo hi = lo :: rangeL (lo + 1) hi := by
  refine rise_is (up_range _ _) (List.pairwise_cons.mpr ⟨fun x hx => ?_, up_range _ _⟩) fun k => ?_
  · rw [rangeL_mem] at hx
    omega
  · rw [List.mem_cons, rangeL_mem, rangeL_mem]
    omega
theorem range_nil {lo hi : Int} (h : hi ≤ lo) : rangeL lo hi = [] := by
  unfold rangeL
  rw [Int.toNat_of_nonpos (by omega)]
  rfl
theorem bStp_run (f : List Bl) (l : Int) : ∀ (n : Nat) (m : Int), (rangeL (m + 1) (m + 1 + n)).foldl bStp (f ++ [(l, m)]) = f ++ [(l, m + n)]
  | 0, m => by rw [range_nil (by omega)]; simp
  | n + 1, m => by
    rw [range_cons (by omega)]
    show List.foldl bStp (bStp (f ++ [(l, m)]) (m + 1)) _ = _
    rw [bStp_snoc, if_pos (show m = m + 1 - 1 by omega)]
    have := bStp_run f l n (m + 1)
    rw [show m + 1 + 1 + (n : Int) = m + 1 + ((n + 1 : Nat) : Int) by omega, show m + 1 + (n : Int) = m + ((n + 1 : Nat) : Int) by omega] at this
    exact this
theorem bStp_block {f : List Bl} {b : Bl} (hb : b.1 ≤ b.2) (hf : ∀ g l, f = g ++ [l] → l.2 + 1 < b.1) : (rangeL b.1 (b.2 + 1)).foldl bStp f = f ++ [b] := by
  rw [range_cons (by omega)]
  have e : bStp f b.1 = f ++ [(b.1, b.1)] := by
    rcases snoc_cases f with rfl | ⟨g, l, rfl⟩
    · rfl
    · rw [bStp_snoc, if_neg]
      have := hf g l rfl
      omega
  show List.foldl bStp (bStp f b.1) _ = _
  rw [e]
  have := bStp_run f b.1 (b.2 - b.1).toNat b.1
  rw [show b.1 + 1 + (((b.2 - b.1).toNat : Nat) : Int) = b.2 + 1 by omega, show b.1 + (((b.2 - b.1).toNat : Nat) : Int) = b.2 by omega] at this
  exact this
theorem blocks_expand {L : Int} (hL : 1 ≤ L) : ∀ (bs : List Bl), apart L bs → blocksOf (expand bs) = bs := by
  intro bs
  induction h : bs.length generalizing bs with
  | zero =>
    intro _
    cases bs with
    | nil => rfl
    | cons _ _ => cases h
  | succ n ih =>
    intro ap
    rcases snoc_cases bs with rfl | ⟨c, x, rfl⟩
    · rfl
    · have hl : c.length = n := by rw [List.length_append] at h; simpa using h
      have p1 := ap.1
      rw [List.pairwise_append] at p1
      have e : expand (c ++ [x]) = expand c ++ rangeL x.1 (x.2 + 1) := by
        unfold expand
        rw [List.flatMap_append]
        simp
      unfold blocksOf
      rw [e, List.foldl_append]
      show List.foldl bStp (blocksOf (expand c)) _ = _
      rw [ih c hl ⟨p1.1, fun b hb => ap.2 b (List.mem_append_left _ hb)⟩]
      refine bStp_block (ap.2 x (List.mem_append_right _ (List.mem_singleton.mpr rfl))) fun g l e => ?_
      have := p1.2.2 l (by rw [e]; exact List.mem_append_right _ (List.mem_singleton.mpr rfl)) x (List.mem_singleton.mpr rfl)
      omega
def lies (bs : List Bl) (x : Int) : Bool := bs.any fun b => decide (b.1 ≤ x) && decide (x ≤ b.2)
theorem lies_is {bs : List Bl} {x : Int} : lies bs x = true ↔ inB bs x := by
  unfold lies inB
  rw [List.any_eq_true]
  constructor
  · rintro ⟨b, hb, h⟩
    rw [Bool.and_eq_true] at h
    exact ⟨b, hb, of_decide_eq_true h.1, of_decide_eq_true h.2⟩
  · rintro ⟨b, hb, h1, h2⟩
    exact ⟨b, hb, by rw [decide_eq_true h1, decide_eq_true h2]; rfl⟩
def setOf (bs : List Bl) : List Int := (rangeL 1 80).filter (lies bs)
/-- pairs of neighbours -/
def gaps (L : Int) (s : List Int) : List Int := ((s.zip s.tail).filter fun p => decide (p.2 - p.1 ≤ L)).flatMap fun p => rangeL p.1 p.2
def firsts (m t : List Int) : List Int := t.filter fun x => m.isEmpty || decide (x < m.headD 0)
def dueF (L : Int) : Option (List Bl) → Option (List Bl) → Option (List Bl)
  | some f, some g => let s := sset (setOf f ++ firsts (setOf f) (setOf g)); some (blocksOf (sset (s ++ gaps L s)))
  | _, _ => none
theorem gaps_mem {L : Int} {s : List Int} {x : Int} : x ∈ gaps L s ↔ ∃ p, p ∈ s.zip s.tail ∧ p.2 - p.1 ≤ L ∧ p.1 ≤ x ∧ x < p.2 := by
  unfold gaps
  rw [List.mem_flatMap]
  constructor
  · rintro ⟨p, hp, h⟩
    rw [List.mem_filter] at hp
    rw [rangeL_mem] at h
    exact ⟨p, hp.1, of_decide_eq_true hp.2, h.1, h.2⟩
  · rintro ⟨p, hp, h1, h2, h3⟩
    exact ⟨p, List.mem_filter.mpr ⟨hp, decide_eq_true h1⟩, rangeL_mem.mpr ⟨h2, h3⟩⟩
theorem zip_sub {s : List Int} {p : Int × Int} (h : p ∈ s.zip s.tail) : p.1 ∈ s ∧ p.2 ∈ s := by
  obtain ⟨a, b⟩ := p
  have := List.of_mem_zip h
  exact ⟨this.1, List.mem_of_mem_tail this.2⟩
theorem cl_near {L : Int} : ∀ (s : List Int), up s → ∀ x p q, p ∈ s → q ∈ s → p ≤ x → x ≤ q → q - p ≤ L → x ∈ s ∨ ∃ r, r ∈ s.zip s.tail ∧ r.2 - r.1 ≤ L ∧ r.1 ≤ x ∧ x < r.2
  | [], _, _, _, _, h, _, _, _, _ => by cases h
  | [a], _, x, p, q, hp, hq, h1, h2, h3 => by
    rw [List.mem_singleton] at hp hq
    left
    rw [List.mem_singleton]
    omega
  | a :: b :: t, hu, x, p, q, hp, hq, h1, h2, h3 => by
    have hu' := List.pairwise_cons.mp hu
    have hab := hu'.1 b List.mem_cons_self
    have hub := List.pairwise_cons.mp hu'.2
    by_cases hx : x = a
    · left; rw [hx]; exact List.mem_cons_self
    · have hpa : a ≤ p := by
        rcases List.mem_cons.mp hp with rfl | hp
        · exact Int.le_refl _
        · exact Int.le_of_lt (hu'.1 p hp)
      have hq' : q ∈ b :: t := by
        rcases List.mem_cons.mp hq with e | hq
        · omega
        · exact hq
      have hbq : b ≤ q := by
        rcases List.mem_cons.mp hq' with e | hq
        · omega
        · exact Int.le_of_lt (hub.1 q hq)
      by_cases hxb : x < b
      · right
        refine ⟨(a, b), List.mem_cons_self, ?_, by show a ≤ x; omega, hxb⟩
        show b - a ≤ L
        rcases List.mem_cons.mp hp with rfl | hp
        · omega
        · have : b ≤ p := by
            rcases List.mem_cons.mp hp with e | hp
            · omega
            · exact Int.le_of_lt (hub.1 p hp)
          omega
      · have key : x ∈ b :: t ∨ ∃ r, r ∈ (b :: t).zip (b :: t).tail ∧ r.2 - r.1 ≤ L ∧ r.1 ≤ x ∧ x < r.2 := by
          rcases List.mem_cons.mp hp with rfl | hp
          · exact cl_near (b :: t) hu'.2 x b q List.mem_cons_self hq' (by omega) h2 (by omega)
          · exact cl_near (b :: t) hu'.2 x p q hp hq' h1 h2 h3
        rcases key with h | ⟨r, hr, k⟩
        · exact .inl (List.mem_cons_of_mem _ h)
        · refine .inr ⟨r, ?_, k⟩
          show r ∈ (a, b) :: (b :: t).zip t
          exact List.mem_cons_of_mem _ hr
/-- with its neighbours' gaps -/
theorem close_mem {L : Int} (hL : 0 ≤ L) {s : List Int} (hu : up s) {x : Int} : x ∈ s ++ gaps L s ↔ cl L (· ∈ s) x := by
  rw [List.mem_append, gaps_mem]
  constructor
  · rintro (h | ⟨p, hp, h1, h2, h3⟩)
    · exact ⟨x, x, h, h, Int.le_refl _, Int.le_refl _, by omega⟩
    · have := zip_sub hp
      exact ⟨p.1, p.2, this.1, this.2, h2, by omega, h1⟩
  · rintro ⟨p, q, hp, hq, h1, h2, h3⟩
    exact cl_near s hu x p q hp hq h1 h2 h3
theorem setOf_mem {L : Int} (hL : 0 ≤ L) {A : List Int} (hu : up A) (hb : ∀ x, x ∈ A → 1 ≤ x ∧ x < 80) {x : Int} : x ∈ setOf (J L A) ↔ cl L (· ∈ A) x := by
  unfold setOf
  rw [List.mem_filter, lies_is, (J_is hL A hu).2.1, rangeL_mem]
  constructor
  · exact fun h => h.2
  · intro h
    have h' := h
    obtain ⟨p, q, hp, hq, h1, h2, _⟩ := h'
    have := hb p hp
    have := hb q hq
    exact ⟨by omega, h⟩
theorem setOf_up (bs : List Bl) : up (setOf bs) := (up_range 1 80).filter _
theorem setOf_head {L : Int} (hL : 0 ≤ L) {b : Int} {t : List Int} (hu : up (b :: t)) (hb : ∀ x, x ∈ b :: t → 1 ≤ x ∧ x < 80) : ∃ r, setOf (J L (b :: t)) = b :: r := by
  have hm : b ∈ setOf (J L (b :: t)) := (setOf_mem hL hu hb).mpr ⟨b, b, List.mem_cons_self, List.mem_cons_self, Int.le_refl _, Int.le_refl _, by omega⟩
  cases hs : setOf (J L (b :: t)) with
  | nil => rw [hs] at hm; cases hm
  | cons c r =>
    have hup := setOf_up (J L (b :: t))
    rw [hs] at hup hm
    have hc : c ∈ setOf (J L (b :: t)) := by rw [hs]; exact List.mem_cons_self
    obtain ⟨p, q, hp, _, h1, _, _⟩ := (setOf_mem hL hu hb).mp hc
    have hbp : b ≤ p := by
      rcases List.mem_cons.mp hp with e | hp
      · omega
      · exact Int.le_of_lt ((List.pairwise_cons.mp hu).1 p hp)
    rcases List.mem_cons.mp hm with e | hm
    · exact ⟨r, by rw [e]⟩
    · have := (List.pairwise_cons.mp hup).1 b hm
      omega
theorem firsts_mem {m t : List Int} {x : Int} : x ∈ firsts m t ↔ x ∈ t ∧ (m = [] ∨ x < m.headD 0) := by
  unfold firsts
  rw [List.mem_filter, Bool.or_eq_true, List.isEmpty_iff, decide_eq_true_iff]
theorem due_rows {L : Int} (hL : 1 ≤ L) {r s : List Int} (hr : ∀ x, x ∈ r → 1 ≤ x ∧ x < 80) (hs : ∀ x, x ∈ s → 1 ≤ x ∧ x < 80) : dueF L (fillF L r) (fillF L s) = fillF L (r ++ s) := by
  have el : lone L (r ++ s) = (lone L r || lone L s) := by unfold lone; rw [List.any_append]
  unfold fillF
  rw [el]
  cases h1 : lone L r with
  | true => rfl
  | false =>
    cases h2 : lone L s with
    | true => rfl
    | false =>
      show some (blocksOf (sset (sset (setOf (J L (asc r)) ++ firsts (setOf (J L (asc r))) (setOf (J L (asc s)))) ++ gaps L (sset (setOf (J L (asc r)) ++ firsts (setOf (J L (asc r))) (setOf (J L (asc s)))))))) = some (J L (asc (r ++ s)))
      congr 1
      have hA := asc_up r
      have hB := asc_up s
      have hC := asc_up (r ++ s)
      have bA : ∀ x, x ∈ asc r → 1 ≤ x ∧ x < 80 := fun x hx => hr x (asc_sub hx)
      have bB : ∀ x, x ∈ asc s → 1 ≤ x ∧ x < 80 := fun x hx => hs x (asc_sub hx)
      have ap := (J_is (L := L) (by omega) (asc (r ++ s)) hC).1
      have hin := (J_is (L := L) (by omega) (asc (r ++ s)) hC).2.1
      rw [← blocks_expand hL _ ap]
      congr 1
      refine (sset_is (expand_up (by omega) ap) fun k => ?_).symm
      rw [expand_mem, hin, close_mem (by omega) (sset_rise _)]
      -- the two closures
      have hU : ∀ x, x ∈ sset (setOf (J L (asc r)) ++ firsts (setOf (J L (asc r))) (setOf (J L (asc s)))) ↔ (cl L (· ∈ asc r) x ∨ (cl L (· ∈ asc s) x ∧ (setOf (J L (asc r)) = [] ∨ x < (setOf (J L (asc r))).headD 0))) := fun x => by
        rw [sset_mem, List.mem_append, firsts_mem, setOf_mem (by omega) hA bA, setOf_mem (by omega) hB bB]
      cases ha : asc r with
      | nil =>
        have := asc_nil.mp ha
        subst this
        rw [asc_nilL]
        have e0 : ∀ x, x ∈ sset (setOf (J L (asc ([] : List Int))) ++ firsts (setOf (J L (asc ([] : List Int)))) (setOf (J L (asc s)))) ↔ cl L (· ∈ asc s) x := fun x => by
          rw [hU x]
          constructor
          · rintro (⟨p, _, hp, _⟩ | h)
            · rw [ha] at hp; cases hp
            · exact h.1
          · exact fun h => .inr ⟨h, .inl rfl⟩
        constructor
        · rintro ⟨p, q, hp, hq, r⟩
          exact ⟨p, q, (e0 p).mpr ⟨p, p, hp, hp, Int.le_refl _, Int.le_refl _, by omega⟩, (e0 q).mpr ⟨q, q, hq, hq, Int.le_refl _, Int.le_refl _, by omega⟩, r⟩
        · rintro ⟨p, q, hp, hq, h1, h2, h3⟩
          obtain ⟨p1, p2, a1, a2, a3, a4, a5⟩ := (e0 p).mp hp
          obtain ⟨q1, q2, b1, b2, b3, b4, b5⟩ := (e0 q).mp hq
          by_cases c1 : k ≤ p2
          · exact ⟨p1, p2, a1, a2, by omega, c1, a5⟩
          · by_cases c2 : q1 ≤ k
            · exact ⟨q1, q2, b1, b2, c2, by omega, b5⟩
            · exact ⟨p2, q1, a2, b1, by omega, by omega, by omega⟩
      | cons b t =>
        have hu := hA
        rw [ha] at hu
        have hbA := bA
        rw [ha] at hbA
        obtain ⟨r0, hr0⟩ := setOf_head (L := L) (by omega) hu hbA
        have hmin : ∀ x, x ∈ asc r → b ≤ x := fun x hx => by
          rw [ha] at hx
          rcases List.mem_cons.mp hx with e | hx
          · omega
          · exact Int.le_of_lt ((List.pairwise_cons.mp hu).1 x hx)
        have hbm : b ∈ asc r := by rw [ha]; exact List.mem_cons_self
        have hT : ∀ x, x ∈ asc (r ++ s) ↔ (x ∈ asc r ∨ (x ∈ asc s ∧ x < b)) := fun x => by
          rw [asc_app ha, List.mem_append, List.mem_filter, decide_eq_true_iff]
          exact Or.comm
        have hU2 : ∀ x, x ∈ sset (setOf (J L (asc r)) ++ firsts (setOf (J L (asc r))) (setOf (J L (asc s)))) ↔ (cl L (· ∈ asc r) x ∨ (cl L (· ∈ asc s) x ∧ x < b)) := fun x => by
          rw [hU x, ha, hr0]
          constructor
          · rintro (h | ⟨h, z | z⟩)
            · exact .inl h
            · cases z
            · exact .inr ⟨h, z⟩
          · rintro (h | ⟨h, z⟩)
            · exact .inl h
            · exact .inr ⟨h, .inr z⟩
        rw [← ha]
        have sub : ∀ x, (cl L (· ∈ asc r) x ∨ (cl L (· ∈ asc s) x ∧ x < b)) → cl L (· ∈ asc (r ++ s)) x := fun x h => by
          rcases h with ⟨p, q, hp, hq, h⟩ | ⟨⟨p, q, hp, hq, h1, h2, h3⟩, hx⟩
          · exact ⟨p, q, (hT p).mpr (.inl hp), (hT q).mpr (.inl hq), h⟩
          · by_cases hqb : q < b
            · exact ⟨p, q, (hT p).mpr (.inr ⟨hp, by omega⟩), (hT q).mpr (.inr ⟨hq, hqb⟩), h1, h2, h3⟩
            · exact ⟨p, b, (hT p).mpr (.inr ⟨hp, by omega⟩), (hT b).mpr (.inl hbm), h1, by omega, by omega⟩
        constructor
        · rintro ⟨p, q, hp, hq, h⟩
          have self : ∀ z, z ∈ asc (r ++ s) → z ∈ sset (setOf (J L (asc r)) ++ firsts (setOf (J L (asc r))) (setOf (J L (asc s)))) := fun z hz => (hU2 z).mpr (by
            rcases (hT z).mp hz with h | ⟨h, h'⟩
            · exact .inl ⟨z, z, h, h, Int.le_refl _, Int.le_refl _, by omega⟩
            · exact .inr ⟨⟨z, z, h, h, Int.le_refl _, Int.le_refl _, by omega⟩, h'⟩)
          exact ⟨p, q, self p hp, self q hq, h⟩
        · rintro ⟨p, q, hp, hq, h1, h2, h3⟩
          obtain ⟨p1, p2, a1, a2, a3, a4, a5⟩ := sub p ((hU2 p).mp hp)
          obtain ⟨q1, q2, b1, b2, b3, b4, b5⟩ := sub q ((hU2 q).mp hq)
          by_cases c1 : k ≤ p2
          · exact ⟨p1, p2, a1, a2, by omega, c1, a5⟩
          · by_cases c2 : q1 ≤ k
            · exact ⟨q1, q2, b1, b2, c2, by omega, b5⟩
            · exact ⟨p2, q1, a2, b1, by omega, by omega, by omega⟩
theorem up_len {s : List Int} (hu : up s) {lo : Int} {m : Nat} (h : ∀ x, x ∈ s → lo ≤ x ∧ x < lo + (m : Int)) : s.length ≤ m := nodup_interval m s lo (hu.imp fun h => by omega) h
def gapsP (L : Int) (ps : List (Int × Int)) : List Int := (ps.filter fun p => decide (p.2 - p.1 ≤ L)).flatMap fun p => rangeL p.1 p.2
theorem gapsP_snoc {L : Int} {ps : List (Int × Int)} {p : Int × Int} : gapsP L (ps ++ [p]) = if p.2 - p.1 ≤ L then gapsP L ps ++ rangeL p.1 p.2 else gapsP L ps := by
  unfold gapsP
  rw [List.filter_append]
  by_cases h : p.2 - p.1 ≤ L
  · have e : List.filter (fun p : Int × Int => decide (p.2 - p.1 ≤ L)) [p] = [p] := List.filter_cons_of_pos (decide_eq_true h)
    rw [if_pos h, e, List.flatMap_append]
    simp
  · have e : List.filter (fun p : Int × Int => decide (p.2 - p.1 ≤ L)) [p] = [] := List.filter_cons_of_neg (by rw [decide_eq_false h]; exact fun z => nomatch z)
    rw [if_neg h, e, List.append_nil]
theorem rangeL_length (lo hi : Int) : (rangeL lo hi).length = (hi - lo).toNat := by unfold rangeL; rw [List.length_map, List.length_range]
theorem gapsP_len {L : Int} : ∀ {ps : List (Int × Int)}, (∀ p, p ∈ ps → p.2 - p.1 ≤ 60) → (gapsP L ps).length ≤ 60 * ps.length
  | [], _ => Nat.le_refl _
  | p :: ps, h => by
    have ih := gapsP_len (L := L) (ps := ps) fun q hq => h q (List.mem_cons_of_mem _ hq)
    have hp := h p List.mem_cons_self
    have e : gapsP L (p :: ps) = gapsP L [p] ++ gapsP L ps := by
      unfold gapsP
      rw [← List.flatMap_append, ← List.filter_append]
      rfl
    rw [e, List.length_append, List.length_cons]
    have : (gapsP L [p]).length ≤ 60 := by
      have := gapsP_snoc (L := L) (ps := []) (p := p)
      rw [List.nil_append] at this
      rw [this]
      split
      · show (rangeL p.1 p.2).length ≤ 60
        rw [rangeL_length]
        omega
      · exact Nat.zero_le _
    omega
theorem gaps_is {L : Int} {s : List Int} : gaps L s = gapsP L (s.zip s.tail) := rfl
/-! ### what follows -/
theorem lone_last {L : Int} {r f : List Int} {l : Int} (h : recs r = f ++ [l]) : lone L r = decide (l < 2 * L) := by
  have hm : l ∈ r := (recs_is r).2.1 l (by rw [h]; exact List.mem_append_right _ (List.mem_singleton.mpr rfl))
  have hmin := (recs_is r).2.2.2 f l h
  unfold lone
  by_cases k : l < 2 * L
  · rw [decide_eq_true k, List.any_eq_true]
    exact ⟨l, hm, decide_eq_true k⟩
  · rw [decide_eq_false k, List.any_eq_false]
    intro x hx
    have := hmin x hx
    rw [decide_eq_false (by omega)]
    exact fun z => nomatch z
theorem lone_nil {L : Int} {r : List Int} (h : recs r = []) : lone L r = false := by
  have := (recs_is r).2.2.1.mp h
  subst this
  rfl
theorem J_len {L : Int} (r : List Int) : (J L (asc r)).length ≤ r.length := by
  have h1 := join_len (L := L) (pts (asc r))
  have h2 := recs_len r
  unfold J
  have h3 : (pts (asc r)).length = (recs r).length := by unfold pts asc; rw [List.length_map, List.length_reverse]
  omega
theorem fill_len {L : Int} {r : List Int} {bs : List Bl} (h : fillF L r = some bs) : bs.length ≤ r.length := by
  unfold fillF at h
  split at h
  · cases h
  · cases h; exact J_len r
theorem recs_twice (r : List Int) : recs (r ++ r) = recs r := by
  rcases snoc_cases (recs r) with h | ⟨f, l, h⟩
  · have := (recs_is r).2.2.1.mp h
    subst this
    rfl
  · show (r ++ r).foldl recStp [] = _
    rw [List.foldl_append]
    show r.foldl recStp (recs r) = _
    have e : (recs r).filter (fun x => decide (x < l)) = [] := by
      rw [List.filter_eq_nil_iff]
      intro y hy
      have hd := (recs_is r).1
      rw [h] at hd hy
      have := down_last hd y hy
      rw [decide_eq_false (by omega)]
      exact fun z => nomatch z
    rw [h, recs_from, e, List.append_nil]
theorem fill_twice (L : Int) (r : List Int) : fillF L (r ++ r) = fillF L r := by
  unfold fillF asc
  rw [recs_twice]
  have : lone L (r ++ r) = lone L r := by
    unfold lone
    rw [List.any_append, Bool.or_self]
  rw [this]
theorem fill_nil (L : Int) : fillF L [] = some [] := rfl
end Fil

set_option Elab.async false
set_option linter.all false
set_option maxRecDepth 100000
set_option maxHeartbeats 4000000


namespace K92
open PySem PySem.Spec PyProof.Rows L2 Cu Fil
def topS (i : Nat) : Stmt := PySem.Challenge.pw_cutsmaller_k92_whole_fillings_as_sets_pu.main.body.getD i (.Pass ⟨0, 0, 0, 0⟩)
abbrev s_tupled : Stmt := topS 1
theorem sc_tupled : FnScope ["thing", "part"] ["thing"] (defScope s_tupled) := ⟨rfl, rfl, rfl, by decide +kernel, rfl, by decide +kernel, by decide +kernel⟩
abbrev s_is_number : Stmt := topS 2
theorem sc_is_number : FnScope ["thing", "least"] ["thing", "least"] (defScope s_is_number) := ⟨rfl, rfl, rfl, by decide +kernel, rfl, by decide +kernel, by decide +kernel⟩
abbrev s_is_tuple : Stmt := topS 3
theorem sc_is_tuple : FnScope ["thing", "many"] ["thing", "many"] (defScope s_is_tuple) := ⟨rfl, rfl, rfl, by decide +kernel, rfl, by decide +kernel, by decide +kernel⟩
abbrev s_records : Stmt := topS 5
theorem sc_records : FnScope ["row", "found", "limit"] ["row"] (defScope s_records) := ⟨rfl, rfl, rfl, by decide +kernel, rfl, by decide +kernel, by decide +kernel⟩
abbrev s_is_lone : Stmt := topS 7
theorem sc_is_lone : FnScope ["row", "least", "limit"] ["row", "least"] (defScope s_is_lone) := ⟨rfl, rfl, rfl, by decide +kernel, rfl, by decide +kernel, by decide +kernel⟩
abbrev s_joined_blocks : Stmt := topS 8
theorem sc_joined_blocks : FnScope ["blocks", "least", "found", "low", "high"] ["blocks", "least"] (defScope s_joined_blocks) := ⟨rfl, rfl, rfl, by decide +kernel, rfl, by decide +kernel, by decide +kernel⟩
abbrev s_filling : Stmt := topS 9
theorem sc_filling : FnScope ["row", "least", "limit"] ["row", "least"] (defScope s_filling) := ⟨rfl, rfl, rfl, by decide +kernel, rfl, by decide +kernel, by decide +kernel⟩
abbrev s_is_block : Stmt := topS 10
theorem sc_is_block : FnScope ["thing", "number"] ["thing"] (defScope s_is_block) := ⟨rfl, rfl, rfl, by decide +kernel, rfl, by decide +kernel, by decide +kernel⟩
abbrev s_is_filling : Stmt := topS 11
theorem sc_is_filling : FnScope ["least", "thing", "block", "one", "other"] ["least", "thing"] (defScope s_is_filling) := ⟨rfl, rfl, rfl, by decide +kernel, rfl, by decide +kernel, by decide +kernel⟩
abbrev s_blocks_of : Stmt := topS 12
theorem sc_blocks_of : FnScope ["blocks"] ["blocks"] (defScope s_blocks_of) := ⟨rfl, rfl, rfl, by decide +kernel, rfl, by decide +kernel, by decide +kernel⟩
abbrev s_many_numbers : Stmt := topS 13
theorem sc_many_numbers : FnScope ["blocks", "low", "high"] ["blocks"] (defScope s_many_numbers) := ⟨rfl, rfl, rfl, by decide +kernel, rfl, by decide +kernel, by decide +kernel⟩
abbrev s_behind : Stmt := topS 14
theorem sc_behind : FnScope ["first", "second", "least", "ahead", "later", "bottom", "lower", "low", "high"] ["first", "second", "least"] (defScope s_behind) := ⟨rfl, rfl, rfl, by decide +kernel, rfl, by decide +kernel, by decide +kernel⟩
abbrev s__law_box : Stmt := topS 16
theorem sc__law_box : FnScope ["script", "k", "cell"] ["script", "k"] (defScope s__law_box) := ⟨rfl, rfl, rfl, by decide +kernel, rfl, by decide +kernel, by decide +kernel⟩
abbrev s__law_take : Stmt := topS 17
theorem sc__law_take : FnScope ["box", "below", "drawn", "once", "far", "twice"] ["box", "below"] (defScope s__law_take) := ⟨rfl, rfl, rfl, by decide +kernel, rfl, by decide +kernel, by decide +kernel⟩
abbrev s__law_cells : Stmt := topS 18
theorem sc__law_cells : FnScope ["script", "most_so", "cells", "k", "cell", "at_so"] ["script", "most_so"] (defScope s__law_cells) := ⟨rfl, rfl, rfl, by decide +kernel, rfl, by decide +kernel, by decide +kernel⟩
abbrev s__law_of : Stmt := topS 19
theorem sc__law_of : FnScope ["box", "some"] ["box", "some"] (defScope s__law_of) := ⟨rfl, rfl, rfl, by decide +kernel, rfl, by decide +kernel, by decide +kernel⟩
abbrev s__law_same : Stmt := topS 20
theorem sc__law_same : FnScope ["got", "due", "mine", "its"] ["got", "due"] (defScope s__law_same) := ⟨rfl, rfl, rfl, by decide +kernel, rfl, by decide +kernel, by decide +kernel⟩
abbrev s__law_blocks : Stmt := topS 21
theorem sc__law_blocks : FnScope ["way", "low", "tops", "found", "limit_so"] ["way", "low"] (defScope s__law_blocks) := ⟨rfl, rfl, rfl, by decide +kernel, rfl, by decide +kernel, by decide +kernel⟩
abbrev s__law_tops : Stmt := topS 22
theorem sc__law_tops : FnScope ["way", "found", "limit_so"] ["way"] (defScope s__law_tops) := ⟨rfl, rfl, rfl, by decide +kernel, rfl, by decide +kernel, by decide +kernel⟩
abbrev s__law_lies : Stmt := topS 23
theorem sc__law_lies : FnScope ["number", "blocks_so", "start", "end"] ["number", "blocks_so"] (defScope s__law_lies) := ⟨rfl, rfl, rfl, by decide +kernel, rfl, by decide +kernel, by decide +kernel⟩
abbrev s__law_drawn_row : Stmt := topS 24
theorem sc__law_drawn_row : FnScope ["box", "low", "top", "found", "turn"] ["box", "low"] (defScope s__law_drawn_row) := ⟨rfl, rfl, rfl, by decide +kernel, rfl, by decide +kernel, by decide +kernel⟩
abbrev s__law_shown : Stmt := topS 25
theorem sc__law_shown : FnScope ["box", "row", "low"] ["box", "row", "low"] (defScope s__law_shown) := ⟨rfl, rfl, rfl, by decide +kernel, rfl, by decide +kernel, by decide +kernel⟩
abbrev s__law_set_of : Stmt := topS 26
theorem sc__law_set_of : FnScope ["blocks_so", "x"] ["blocks_so"] (defScope s__law_set_of) := ⟨rfl, rfl, rfl, by decide +kernel, rfl, by decide +kernel, by decide +kernel⟩
abbrev s__law_blocks_of : Stmt := topS 27
theorem sc__law_blocks_of : FnScope ["numbers", "found", "own"] ["numbers"] (defScope s__law_blocks_of) := ⟨rfl, rfl, rfl, by decide +kernel, rfl, by decide +kernel, by decide +kernel⟩
abbrev s__law_behind_of : Stmt := topS 28
theorem sc__law_behind_of : FnScope ["near", "far", "low", "mine", "its", "some", "one", "two", "x"] ["near", "far", "low"] (defScope s__law_behind_of) := ⟨rfl, rfl, rfl, by decide +kernel, rfl, by decide +kernel, by decide +kernel⟩
abbrev s__law_three_right : Stmt := topS 29
theorem sc__law_three_right : FnScope ["rows", "low", "own", "near", "far", "due", "got", "one", "two", "three", "row", "its"] ["rows", "low"] (defScope s__law_three_right) := ⟨rfl, rfl, rfl, by decide +kernel, rfl, by decide +kernel, by decide +kernel⟩
abbrev s__law_shape_right : Stmt := topS 30
theorem sc__law_shape_right : FnScope ["box", "low", "numbers", "here", "turn", "end", "thing", "fine", "got", "one", "two", "start"] ["box", "low"] (defScope s__law_shape_right) := ⟨rfl, rfl, rfl, by decide +kernel, rfl, by decide +kernel, by decide +kernel⟩
abbrev s_law : Stmt := topS 31
theorem sc_law : FnScope ["script", "box", "lap", "low", "rows", "k"] ["script"] (defScope s_law) := ⟨rfl, rfl, rfl, by decide +kernel, rfl, by decide +kernel, by decide +kernel⟩
structure Tp (K : PySem.W.Frag) (mg : Str → Option Value) : Prop where
  len : mg "len" = none
  abs : mg "abs" = none
  int : mg "int" = none
  list : mg "list" = none
  tuple : mg "tuple" = none
  any : mg "any" = none
  all : mg "all" = none
  sum : mg "sum" = none
  sorted : mg "sorted" = none
  min : mg "min" = none
  range : mg "range" = none
  zip : mg "zip" = none
  enumerate : mg "enumerate" = none
  isinstance : mg "isinstance" = none
  set : mg "set" = none
  bool : mg "bool" = none
  str : mg "str" = none
  d_tupled : DefAt K mg "tupled" s_tupled ["thing"]
  d_is_number : DefAt K mg "is_number" s_is_number ["thing", "least"]
  d_is_tuple : DefAt K mg "is_tuple" s_is_tuple ["thing", "many"]
  d_records : DefAt K mg "records" s_records ["row"]
  d_is_lone : DefAt K mg "is_lone" s_is_lone ["row", "least"]
  d_joined_blocks : DefAt K mg "joined_blocks" s_joined_blocks ["blocks", "least"]
  d_filling : DefAt K mg "filling" s_filling ["row", "least"]
  d_is_block : DefAt K mg "is_block" s_is_block ["thing"]
  d_is_filling : DefAt K mg "is_filling" s_is_filling ["least", "thing"]
  d_blocks_of : DefAt K mg "blocks_of" s_blocks_of ["blocks"]
  d_many_numbers : DefAt K mg "many_numbers" s_many_numbers ["blocks"]
  d_behind : DefAt K mg "behind" s_behind ["first", "second", "least"]
  d__law_box : DefAt K mg "_law_box" s__law_box ["script", "k"]
  d__law_take : DefAt K mg "_law_take" s__law_take ["box", "below"]
  d__law_cells : DefAt K mg "_law_cells" s__law_cells ["script", "most_so"]
  d__law_of : DefAt K mg "_law_of" s__law_of ["box", "some"]
  d__law_same : DefAt K mg "_law_same" s__law_same ["got", "due"]
  d__law_blocks : DefAt K mg "_law_blocks" s__law_blocks ["way", "low"]
  d__law_tops : DefAt K mg "_law_tops" s__law_tops ["way"]
  d__law_lies : DefAt K mg "_law_lies" s__law_lies ["number", "blocks_so"]
  d__law_drawn_row : DefAt K mg "_law_drawn_row" s__law_drawn_row ["box", "low"]
  d__law_shown : DefAt K mg "_law_shown" s__law_shown ["box", "row", "low"]
  d__law_set_of : DefAt K mg "_law_set_of" s__law_set_of ["blocks_so"]
  d__law_blocks_of : DefAt K mg "_law_blocks_of" s__law_blocks_of ["numbers"]
  d__law_behind_of : DefAt K mg "_law_behind_of" s__law_behind_of ["near", "far", "low"]
  d__law_three_right : DefAt K mg "_law_three_right" s__law_three_right ["rows", "low"]
  d__law_shape_right : DefAt K mg "_law_shape_right" s__law_shape_right ["box", "low"]
section
variable {P : Program} {w : World} {K : PySem.W.Frag} {mg : Str → Option Value} {base : Heap}
/-! ### what all laws share: the draws, what is the same -/
abbrev Φ__law_take0 : PhiO := PhiTake
abbrev l__law_take0 := @PhiTake_l
abbrev Φ__law_box : PhiF := PhiBox
abbrev l__law_box := @PhiBox_l
abbrev m__law_box := @PhiBox_m
abbrev Φ__law_cells : PhiO := PhiCells
abbrev l__law_cells := @PhiCells_l
abbrev m__law_cells := @PhiCells_m
theorem at__law_take0 (T : Tp K mg) : FnAt P w K mg base "_law_take" 1 (spO K Φ__law_take0) := by
  obtain ⟨f, fd, F, hm, hb⟩ := T.d__law_take
  refine ⟨f, fd, ["box", "below"], fn_o F sc__law_take l__law_take0 fun cdv A outer s H E hr => ⟨_, (dss_cons (ds_if (dt_cmp (hu65 hr) (de_trip 0 0 (by decide)) de_int) (dss_cons (ds_set false 2 sc__law_take.nd (de_bin (de_callTy int_ok intW_m T.int b_int (de_trip 0 0 (by decide))) (de_var 1)))
    (dss_cons (ds_tripSet 0 0 (by decide) (de_bin (de_trip 0 0 (by decide)) (de_var 1)))
    (dss_one (ds_ret (de_var 2))))) dss_nil)
    (dss_cons (ds_tripSet 0 2 (by decide) (de_bin (de_trip 0 2 (by decide)) de_int))
    (dss_cons (ds_set false 3 sc__law_take.nd (de_bin (de_callTy int_ok intW_m T.int b_int (de_bin (de_bin (de_trip 0 1 (by decide)) (de_bin de_int (de_trip 0 2 (by decide)))) (de_bin de_int (de_trip 0 2 (by decide))))) de_int))
    (dss_cons (ds_set false 4 sc__law_take.nd (de_bin (de_bin (de_callTy int_ok intW_m T.int b_int (de_var 3)) de_int) de_int))
    (dss_cons (ds_set false 5 sc__law_take.nd (de_bin (de_callTy int_ok intW_m T.int b_int (de_bin (de_bin (de_bin (de_var 3) (de_trip 0 2 (by decide))) (de_bin (de_trip 0 1 (by decide)) de_int)) (de_var 4))) de_int))
    (dss_one (ds_ret (de_bin (de_callTy int_ok intW_m T.int b_int (de_bin (de_bin (de_callTy int_ok intW_m T.int b_int (de_bin (de_bin (de_var 5) de_int) (de_var 3))) de_int) de_int)) (de_var 1))))))))), fun R ds Q h => ?_⟩, hm, F.kp, hb⟩
  obtain ⟨b, x, y, z, n, rfl, rfl, h0, h1, hz, hz1, q⟩ := h
  conv => whnf
  refine ⟨_, _, _, _, rfl, ?_⟩
  conv => whnf
  refine ⟨fun hb => ?_, fun hb => ?_⟩
  · (repeat ((conv => whnf); first | refine cnd.yes ?_ | refine cnd.no ?_ | refine cnd.decY (by first | rfl | omega) ?_ | refine cnd.decN (by omega) ?_ | refine cnd.notY (by omega) ?_ | refine cnd.notN (by first | rfl | omega) ?_ | refine cnd.decY (by simp only [List.length_cons, List.length_nil, List.length_map, List.length_append]; omega) ?_ | refine cnd.decN (by simp only [List.length_cons, List.length_nil, List.length_map, List.length_append]; omega) ?_ | refine Exists.intro _ (And.intro atI_zero ?_) | refine Exists.intro _ (And.intro atI_one ?_) | refine Exists.intro _ (And.intro (atI_last _ _) ?_) | refine Exists.intro _ (And.intro (setAt_last _ _ _) ?_) | refine Exists.intro _ (Exists.intro _ (Exists.intro _ (Exists.intro _ (And.intro rfl ?_)))) | refine Exists.intro _ (And.intro rfl ?_) | refine Exists.intro _ (Exists.intro _ (And.intro rfl ?_)) | refine Exists.intro _ (Exists.intro _ (Exists.intro _ (And.intro rfl ?_))) | refine And.intro (cdivW_small (by first | decide | omega) (by first | decide | omega)) ?_ | refine And.intro (.inl (.inl ⟨by omega, by omega⟩)) ?_ | refine And.intro (.inl (.inr ⟨by omega, by omega⟩)) ?_ | refine And.intro ⟨by decide, by decide, by decide⟩ ?_ | refine And.intro (by decide) ?_ | refine And.intro (by omega) ?_ | refine And.intro (by simp only [List.length_cons, List.length_nil]; decide) ?_ | refine And.intro (by simp only [List.length_cons, List.length_nil, List.length_map, List.length_append]; omega) ?_)); (conv => whnf)
    exact ⟨rfl, q _ _ _ _ (Int.emod_nonneg _ (by omega)) (Int.emod_lt_of_pos _ h0) hz (by omega)⟩
  · (repeat ((conv => whnf); first | refine cnd.yes ?_ | refine cnd.no ?_ | refine cnd.decY (by first | rfl | omega) ?_ | refine cnd.decN (by omega) ?_ | refine cnd.notY (by omega) ?_ | refine cnd.notN (by first | rfl | omega) ?_ | refine cnd.decY (by simp only [List.length_cons, List.length_nil, List.length_map, List.length_append]; omega) ?_ | refine cnd.decN (by simp only [List.length_cons, List.length_nil, List.length_map, List.length_append]; omega) ?_ | refine Exists.intro _ (And.intro atI_zero ?_) | refine Exists.intro _ (And.intro atI_one ?_) | refine Exists.intro _ (And.intro (atI_last _ _) ?_) | refine Exists.intro _ (And.intro (setAt_last _ _ _) ?_) | refine Exists.intro _ (Exists.intro _ (Exists.intro _ (Exists.intro _ (And.intro rfl ?_)))) | refine Exists.intro _ (And.intro rfl ?_) | refine Exists.intro _ (Exists.intro _ (And.intro rfl ?_)) | refine Exists.intro _ (Exists.intro _ (Exists.intro _ (And.intro rfl ?_))) | refine And.intro (cdivW_small (by first | decide | omega) (by first | decide | omega)) ?_ | refine And.intro (.inl (.inl ⟨by omega, by omega⟩)) ?_ | refine And.intro (.inl (.inr ⟨by omega, by omega⟩)) ?_ | refine And.intro ⟨by decide, by decide, by decide⟩ ?_ | refine And.intro (by decide) ?_ | refine And.intro (by omega) ?_ | refine And.intro (by simp only [List.length_cons, List.length_nil]; decide) ?_ | refine And.intro (by simp only [List.length_cons, List.length_nil, List.length_map, List.length_append]; omega) ?_)); (conv => whnf)
    exact ⟨rfl, q _ _ _ _ (Int.emod_nonneg _ (by omega)) (Int.emod_lt_of_pos _ h0) (by omega) (by omega)⟩
theorem at__law_take (T : Tp K mg) : FnAt P w K mg base "_law_take" 1 (spO K PhiDraw) := draw_of (at__law_take0 T)
abbrev m__law_take := @PhiDraw_m
theorem at__law_box (T : Tp K mg) : FnAt P w K mg base "_law_box" 1 (spF K Φ__law_box) := by
  obtain ⟨f, fd, F, hm, hb⟩ := T.d__law_box
  refine ⟨f, fd, ["script", "k"], fn_f F sc__law_box l__law_box fun cdv A outer s H E hr => ⟨_, (df_cons (ds_set false 2 sc__law_box.nd (de_if (dt_cmp (hu65 hr) (de_var 1) (de_callB len_ok lenW_m T.len b_len (de_var 0))) (de_ix (de_var 0) (de_var 1)) de_int))
    (df_ret (de_lst (da_cons (de_bin (de_callB abs_ok absW_m T.abs b_abs (de_var 2)) (de_callTy int_ok intW_m T.int b_int (de_cmp (hu65 hr) (de_callB abs_ok absW_m T.abs b_abs (de_var 2)) (de_bin de_int de_int)))) (da_cons (de_bin (de_bin (de_bin (de_callTy int_ok intW_m T.int b_int (de_var 2)) de_int) (de_bin de_int (de_var 1))) de_int) (da_cons de_int da_nil)))))), fun ds Q h => ?_⟩, hm, F.kp, hb⟩
  obtain ⟨cs, hc, rfl, q⟩ := h
  obtain ⟨c, cs, rfl⟩ : ∃ c r, cs = c :: r := by
    cases cs with
    | nil => exact absurd rfl hc
    | cons c r => exact ⟨c, r, rfl⟩
  conv => whnf
  refine ⟨fun _ => ?_, fun z => ?_⟩
  · conv => whnf
    refine ⟨_, atI_zero, ?_⟩
    (repeat ((conv => whnf); first | refine cnd.yes ?_ | refine cnd.no ?_ | refine cnd.decY (by first | rfl | omega) ?_ | refine cnd.decN (by omega) ?_ | refine cnd.notY (by omega) ?_ | refine cnd.notN (by first | rfl | omega) ?_ | refine cnd.decY (by simp only [List.length_cons, List.length_nil, List.length_map, List.length_append]; omega) ?_ | refine cnd.decN (by simp only [List.length_cons, List.length_nil, List.length_map, List.length_append]; omega) ?_ | refine Exists.intro _ (And.intro atI_zero ?_) | refine Exists.intro _ (And.intro atI_one ?_) | refine Exists.intro _ (And.intro (atI_last _ _) ?_) | refine Exists.intro _ (And.intro (setAt_last _ _ _) ?_) | refine Exists.intro _ (Exists.intro _ (Exists.intro _ (Exists.intro _ (And.intro rfl ?_)))) | refine Exists.intro _ (And.intro rfl ?_) | refine Exists.intro _ (Exists.intro _ (And.intro rfl ?_)) | refine Exists.intro _ (Exists.intro _ (Exists.intro _ (And.intro rfl ?_))) | refine And.intro (cdivW_small (by first | decide | omega) (by first | decide | omega)) ?_ | refine And.intro (.inl (.inl ⟨by omega, by omega⟩)) ?_ | refine And.intro (.inl (.inr ⟨by omega, by omega⟩)) ?_ | refine And.intro ⟨by decide, by decide, by decide⟩ ?_ | refine And.intro (by decide) ?_ | refine And.intro (by omega) ?_ | refine And.intro (by simp only [List.length_cons, List.length_nil]; decide) ?_ | refine And.intro (by simp only [List.length_cons, List.length_nil, List.length_map, List.length_append]; omega) ?_)); (conv => whnf)
    exact q _ _
  · (repeat ((conv => whnf); first | refine cnd.yes ?_ | refine cnd.no ?_ | refine cnd.decY (by first | rfl | omega) ?_ | refine cnd.decN (by omega) ?_ | refine cnd.notY (by omega) ?_ | refine cnd.notN (by first | rfl | omega) ?_ | refine cnd.decY (by simp only [List.length_cons, List.length_nil, List.length_map, List.length_append]; omega) ?_ | refine cnd.decN (by simp only [List.length_cons, List.length_nil, List.length_map, List.length_append]; omega) ?_ | refine Exists.intro _ (And.intro atI_zero ?_) | refine Exists.intro _ (And.intro atI_one ?_) | refine Exists.intro _ (And.intro (atI_last _ _) ?_) | refine Exists.intro _ (And.intro (setAt_last _ _ _) ?_) | refine Exists.intro _ (Exists.intro _ (Exists.intro _ (Exists.intro _ (And.intro rfl ?_)))) | refine Exists.intro _ (And.intro rfl ?_) | refine Exists.intro _ (Exists.intro _ (And.intro rfl ?_)) | refine Exists.intro _ (Exists.intro _ (Exists.intro _ (And.intro rfl ?_))) | refine And.intro (cdivW_small (by first | decide | omega) (by first | decide | omega)) ?_ | refine And.intro (.inl (.inl ⟨by omega, by omega⟩)) ?_ | refine And.intro (.inl (.inr ⟨by omega, by omega⟩)) ?_ | refine And.intro ⟨by decide, by decide, by decide⟩ ?_ | refine And.intro (by decide) ?_ | refine And.intro (by omega) ?_ | refine And.intro (by simp only [List.length_cons, List.length_nil]; decide) ?_ | refine And.intro (by simp only [List.length_cons, List.length_nil, List.length_map, List.length_append]; omega) ?_)); (conv => whnf)
    exact q _ _
theorem at__law_cells (T : Tp K mg) : FnAt P w K mg base "_law_cells" 1 (spO K Φ__law_cells) := by
  obtain ⟨f, fd, F, hm, hb⟩ := T.d__law_cells
  refine ⟨f, fd, ["script", "most_so"], fn_o F sc__law_cells l__law_cells fun cdv A outer s H E hr => ⟨_, (dss_consC (ds_set true 2 sc__law_cells.nd (de_orT (de_callTy list_ok listW_m T.list b_list (de_scrSl 0 do_none (do_some (de_var 1)))) (de_one (de_lst (da_cons de_int da_nil)))))
    (dss_cons (ds_for PassesOwn.never rfl (di_enum T.enumerate (da_cons (de_scrSl 0 (do_some (de_var 1)) (do_some de_int)) da_nil)) (dg_t rfl (dgs_cons (dg_n 3 sc__law_cells.nd) (dgs_cons (dg_n 4 sc__law_cells.nd) dgs_nil)) (hl := gs2)) (dss_cons (ds_set false 5 sc__law_cells.nd (de_bin (de_callTy int_ok intW_m T.int b_int (de_var 3)) (de_var 1)))
    (dss_one (ds_setIx 2 (de_bin (de_ix (de_var 2) (de_var 5)) (de_bin (de_var 4) (de_bin (de_var 3) de_int))) (de_var 5)))))
    (dss_one (ds_ret (de_var 2))))), fun R ds Q h => ?_⟩, hm, F.kp, hb⟩
  obtain ⟨a, ns, rfl, hl, rfl, q⟩ := h
  conv => whnf
  refine ⟨fun ρ => ∃ cs : List Int, ρ = [.own (Scr a ns), .pub (.int 2), .lst (cs.map PyData.int), .no, .no, .no] ∧ cs ≠ [] ∧ cs.length ≤ 2 ∧ (2 < ns.length → cs.length = 2), ?_, ?_⟩
  · conv => whnf
    refine ⟨a, ns, rfl, ?_⟩
    conv => whnf
    refine ⟨a, ns, rfl, ?_⟩
    conv => whnf
    rw [show (some 2 : Option Int) = some ((2 : Nat) : Int) from rfl, cutD_take, ← List.map_take]
    refine ⟨fun hb => ?_, fun hb => ?_⟩
    · conv => whnf
      refine ⟨ns.take 2, rfl, fun z => ?_, by rw [List.length_take]; omega, fun h => by rw [List.length_take]; omega⟩
      rw [z] at hb
      cases hb
    · conv => whnf
      refine ⟨by decide, ?_⟩
      conv => whnf
      refine ⟨[0], rfl, List.cons_ne_nil _ _, by decide, fun h => ?_⟩
      cases ns with
      | nil => cases h
      | cons n ns => cases hb
  · rintro ρ ⟨cs, rfl, h0, h1, h2⟩
    conv => whnf
    refine ⟨a, ns, rfl, ?_⟩
    conv => whnf
    refine ⟨a, ns, rfl, ?_⟩
    conv => whnf
    rw [show (some 2 : Option Int) = some ((2 : Nat) : Int) from rfl, show (some 63 : Option Int) = some ((63 : Nat) : Int) from rfl, cutD_mid]
    refine ⟨fun _ ρ => ∃ (cs : List Int) (s1 s2 s3 : Slot), ρ = [.own (Scr a ns), .pub (.int 2), .lst (cs.map PyData.int), s1, s2, s3] ∧ cs ≠ [] ∧ cs.length ≤ 2 ∧ (2 < ns.length → cs.length = 2), ⟨cs, _, _, _, rfl, h0, h1, h2⟩, ?_, ?_⟩
    · rintro i d ρ2 hd ⟨cs, s1, s2, s3, rfl, h0, h1, h2⟩
      obtain ⟨x, hx, rfl⟩ := enum_inv hd
      have hx2 := List.mem_of_getElem? hx
      have hx3 := List.mem_of_mem_take hx2
      rw [← List.map_drop] at hx3
      obtain ⟨v, hv, rfl⟩ := List.mem_map.mp hx3
      have hlen : 2 < ns.length := by
        have := List.length_pos_of_mem hv
        rw [List.length_drop] at this
        omega
      have hc := h2 hlen
      obtain ⟨c0, c1, rfl⟩ : ∃ c0 c1, cs = [c0, c1] := by
        match cs, hc with
        | [c0, c1], _ => exact ⟨c0, c1, rfl⟩
      have hm : ((0 + i : Nat) : Int) % 2 = 0 ∨ ((0 + i : Nat) : Int) % 2 = 1 := by omega
      conv => whnf
      refine ⟨by decide, ?_⟩
      conv => whnf
      have hi : i < 63 := by
        have := (List.getElem?_eq_some_iff.mp hx).1
        rw [List.length_take] at this
        omega
      rcases hm with hm | hm
      · rw [hm]
        refine ⟨_, rfl, ?_⟩
        conv => whnf
        refine ⟨.inl (.inr ⟨by omega, by omega⟩), ?_⟩
        conv => whnf
        refine ⟨_, rfl, ?_⟩
        conv => whnf
        exact ⟨[c0 + v * (((0 + i : Nat) : Int) + 2), c1], _, _, _, rfl, List.cons_ne_nil _ _, Nat.le_refl _, fun _ => rfl⟩
      · rw [hm]
        refine ⟨_, rfl, ?_⟩
        conv => whnf
        refine ⟨.inl (.inr ⟨by omega, by omega⟩), ?_⟩
        conv => whnf
        refine ⟨_, rfl, ?_⟩
        conv => whnf
        exact ⟨[c0, c1 + v * (((0 + i : Nat) : Int) + 2)], _, _, _, rfl, List.cons_ne_nil _ _, Nat.le_refl _, fun _ => rfl⟩
    · rintro ρ2 ⟨cs, s1, s2, s3, rfl, h0, h1, h2⟩
      conv => whnf
      exact ⟨rfl, q cs h0 h1⟩
def Φ__law_of : PhiO := fun R ds Q => ∃ (b : Addr) (r : Nat) (d0 : PD) (xs : List PD), R = Box b (r + 1) ∧ ds = [d0] ∧ itemsOf d0 = some xs ∧ xs ≠ [] ∧ xs.length ≤ 16000000 ∧ ∀ d, d ∈ xs → Q d (Box b r)
theorem m__law_of : ∀ {s : Res} {ds : List PD} {Q Q' : PD → Res → Prop}, (∀ d s', Q d s' → Q' d s') → Φ__law_of s ds Q → Φ__law_of s ds Q' := fun h ⟨b, r, d0, xs, e1, e2, e3, h0, h1, q⟩ => ⟨b, r, d0, xs, e1, e2, e3, h0, h1, fun d hd => h _ _ (q d hd)⟩
theorem l__law_of : ∀ s ds Q, Φ__law_of s ds Q → ds.length + 1 = 2 := fun s ds Q ⟨b, r, d0, xs, _, e, _⟩ => by rw [e]; rfl
theorem at__law_of (T : Tp K mg) : FnAt P w K mg base "_law_of" 2 (spO K Φ__law_of) := by
  obtain ⟨f, fd, F, hm, hb⟩ := T.d__law_of
  refine ⟨f, fd, ["box", "some"], fn_o F sc__law_of l__law_of fun cdv A outer s H E hr => ⟨_, (dss_one (ds_ret (de_ix (de_var 1) (de_callO (i := 0) (at__law_take T) hr m__law_take (da_cons (de_callB len_ok lenW_m T.len b_len (de_var 1)) da_nil))))), fun R ds Q h => ?_⟩, hm, F.kp, hb⟩
  obtain ⟨b, r, d0, xs, rfl, rfl, e, h0, h1, q⟩ := h
  have hpos : 0 < xs.length := List.length_pos_iff.mpr h0
  cases d0 with
  | list ds =>
    cases e
    conv => whnf
    refine ⟨b, r, (xs.length : Int), rfl, rfl, by omega, by omega, fun k k0 k1 => ?_⟩
    conv => whnf
    exact ⟨_, atI_int k0 k1, rfl, q _ (List.getElem_mem _)⟩
  | tuple ds =>
    cases e
    conv => whnf
    refine ⟨b, r, (xs.length : Int), rfl, rfl, by omega, by omega, fun k k0 k1 => ?_⟩
    conv => whnf
    exact ⟨_, atI_int k0 k1, rfl, q _ (List.getElem_mem _)⟩
  | _ => cases e
theorem of_list {b : Addr} {r : Nat} {xs : List PD} {Q : PD → Res → Prop} (h0 : xs ≠ []) (hl : xs.length ≤ 16000000) (q : ∀ d, d ∈ xs → Q d (Box b r)) : Φ__law_of (Box b (r + 1)) [.list xs] Q := ⟨b, r, _, xs, rfl, rfl, rfl, h0, hl, q⟩
theorem of_ints {b : Addr} {r : Nat} (ns : List Int) {Q : PD → Res → Prop} (h0 : ns ≠ []) (hl : ns.length ≤ 16000000) (q : ∀ n, n ∈ ns → Q (.int n) (Box b r)) : Φ__law_of (Box b (r + 1)) [.list (ns.map PyData.int)] Q :=
  of_list (fun z => h0 (List.map_eq_nil_iff.mp z)) (by rw [List.length_map]; exact hl) fun d hd => by
    obtain ⟨n, hn, rfl⟩ := List.mem_map.mp hd
    exact q n hn
theorem draw {b : Addr} {r : Nat} {n : Int} {Q : PD → Res → Prop} (h0 : 0 < n) (h1 : n < 2 ^ 64) (q : ∀ k, 0 ≤ k → k < n → Q (.int k) (Box b r)) : PhiDraw (Box b (r + 1)) [.int n] Q := ⟨b, r, n, rfl, rfl, h0, h1, q⟩
def Φ__law_same (n : Nat) : PhiP := fun ds Q => ∃ d, ds = [d, d] ∧ okN n d ∧ Q (.bool true)
theorem m__law_same (n : Nat) : ∀ {ds : List PD} {Q Q' : PD → Prop}, (∀ d, Q d → Q' d) → Φ__law_same n ds Q → Φ__law_same n ds Q' := fun h ⟨d, e, ok, q⟩ => ⟨d, e, ok, h _ q⟩
theorem l__law_same (n : Nat) : ∀ ds Q, Φ__law_same n ds Q → ds.length = 2 := fun ds Q ⟨d, e, _⟩ => by rw [e]; rfl
theorem at__law_same (T : Tp K mg) : ∀ n, FnAt P w K mg base "_law_same" (n + 1) (spP K (Φ__law_same n))
  | 0 => by
    obtain ⟨f, fd, F, hm, hb⟩ := T.d__law_same
    exact ⟨f, fd, ["got", "due"], fn_p F sc__law_same (l__law_same 0) fun cdv A outer s H E hr => ⟨_, dss_never, fun ds Q h => by obtain ⟨d, _, h, _⟩ := h; exact h⟩, hm, F.kp, hb⟩
  | n + 1 => by
    obtain ⟨f, fd, F, hm, hb⟩ := T.d__law_same
    have ih := at__law_same T n
    refine ⟨f, fd, ["got", "due"], fn_p F sc__law_same (l__law_same (n + 1)) fun cdv A outer s H E hr => ⟨_, (dss_cons (ds_if (dt_val (de_isi2 kit_list kit_tuple T.isinstance T.list b_list T.tuple b_tuple (de_var 1))) (dss_cons (ds_if (dt_w (dw_or (dt_cmp (hu65 hr) (de_isi kit_list T.isinstance T.list b_list (de_var 0)) (de_isi kit_list T.isinstance T.list b_list (de_var 1))) (dw_or1 (dt_cmp (hu65 hr) (de_isi kit_tuple T.isinstance T.tuple b_tuple (de_var 0)) (de_isi kit_tuple T.isinstance T.tuple b_tuple (de_var 1)))))) (dss_one (ds_ret de_bl)) dss_nil)
    (dss_one (ds_ret (de_and (de_cmp (hu65 hr) (de_callB len_ok lenW_m T.len b_len (de_var 0)) (de_callB len_ok lenW_m T.len b_len (de_var 1))) (de_one (de_callB (all_ok rfl) allW_m T.all b_all (de_lc rfl sc__law_same.nd (blkOk_by (N := ["got", "due", "mine", "its"]) (sc := defScope s__law_same) (own := [("mine", 2), ("its", 3)]) (by decide +kernel)) (lc_ok (di_zip T.zip (da_cons (de_var 0) (da_cons (de_var 1) da_nil))) (fun _ _ _ _ _ => (dg_t rfl (dgs_cons (dg_n 2 sc__law_same.nd) (dgs_cons (dg_n 3 sc__law_same.nd) dgs_nil)) (hl := gs2))) (fun _ _ _ _ _ => dp_nil) (fun _ _ _ _ _ => (de_call ih hr (m__law_same _) (da_cons (de_var 2) (da_cons (de_var 3) da_nil)) (hk := Nat.le_refl _))))))))))) dss_nil)
    (dss_cons (ds_if (dt_w (dw_or (dt_cmp (hu65 hr) (de_var 1) de_non) (dw_or1 (dt_val (de_isi2 kit_bool kit_str T.isinstance T.bool b_bool T.str b_str (de_var 1)))))) (dss_one (ds_ret (de_and (de_cmp (hu65 hr) (de_var 0) (de_var 1)) (de_and (de_cmp (hu65 hr) (de_isi kit_bool T.isinstance T.bool b_bool (de_var 0)) (de_isi kit_bool T.isinstance T.bool b_bool (de_var 1))) (de_one (de_cmp (hu65 hr) (de_cmp (hu65 hr) (de_var 0) de_non) (de_cmp (hu65 hr) (de_var 1) de_non))))))) dss_nil)
    (dss_one (ds_ret (de_and (de_isi kit_int T.isinstance T.int b_int (de_var 0)) (de_and (de_not (de_isi kit_bool T.isinstance T.bool b_bool (de_var 0))) (de_one (de_cmp (hu65 hr) (de_var 0) (de_var 1))))))))), fun ds Q h => ?_⟩, hm, F.kp, hb⟩
    obtain ⟨d, rfl, ok, q⟩ := h
    cases d with
    | list ds =>
      (repeat ((conv => whnf); first | refine cnd.yes ?_ | refine cnd.no ?_ | refine cnd.decY (by first | rfl | omega) ?_ | refine cnd.decN (by omega) ?_ | refine cnd.notY (by omega) ?_ | refine cnd.notN (by first | rfl | omega) ?_ | refine cnd.decY (by simp only [List.length_cons, List.length_nil, List.length_map, List.length_append]; omega) ?_ | refine cnd.decN (by simp only [List.length_cons, List.length_nil, List.length_map, List.length_append]; omega) ?_ | refine Exists.intro _ (And.intro atI_zero ?_) | refine Exists.intro _ (And.intro atI_one ?_) | refine Exists.intro _ (And.intro (atI_last _ _) ?_) | refine Exists.intro _ (And.intro (setAt_last _ _ _) ?_) | refine Exists.intro _ (Exists.intro _ (Exists.intro _ (Exists.intro _ (And.intro rfl ?_)))) | refine Exists.intro _ (And.intro rfl ?_) | refine Exists.intro _ (Exists.intro _ (And.intro rfl ?_)) | refine Exists.intro _ (Exists.intro _ (Exists.intro _ (And.intro rfl ?_))) | refine And.intro (cdivW_small (by first | decide | omega) (by first | decide | omega)) ?_ | refine And.intro (.inl (.inl ⟨by omega, by omega⟩)) ?_ | refine And.intro (.inl (.inr ⟨by omega, by omega⟩)) ?_ | refine And.intro ⟨by decide, by decide, by decide⟩ ?_ | refine And.intro (by decide) ?_ | refine And.intro (by omega) ?_ | refine And.intro (by simp only [List.length_cons, List.length_nil]; decide) ?_ | refine And.intro (by simp only [List.length_cons, List.length_nil, List.length_map, List.length_append]; omega) ?_)); (conv => whnf)
      rw [zipD_self]
      refine lcQ_all ds _ (fun _ => .bool true) ok.1 (fun d hd KK S hK => ?_) ?_
      · (repeat ((conv => whnf); first | refine cnd.yes ?_ | refine cnd.no ?_ | refine cnd.decY (by first | rfl | omega) ?_ | refine cnd.decN (by omega) ?_ | refine cnd.notY (by omega) ?_ | refine cnd.notN (by first | rfl | omega) ?_ | refine cnd.decY (by simp only [List.length_cons, List.length_nil, List.length_map, List.length_append]; omega) ?_ | refine cnd.decN (by simp only [List.length_cons, List.length_nil, List.length_map, List.length_append]; omega) ?_ | refine Exists.intro _ (And.intro atI_zero ?_) | refine Exists.intro _ (And.intro atI_one ?_) | refine Exists.intro _ (And.intro (atI_last _ _) ?_) | refine Exists.intro _ (And.intro (setAt_last _ _ _) ?_) | refine Exists.intro _ (Exists.intro _ (Exists.intro _ (Exists.intro _ (And.intro rfl ?_)))) | refine Exists.intro _ (And.intro rfl ?_) | refine Exists.intro _ (Exists.intro _ (And.intro rfl ?_)) | refine Exists.intro _ (Exists.intro _ (Exists.intro _ (And.intro rfl ?_))) | refine And.intro (cdivW_small (by first | decide | omega) (by first | decide | omega)) ?_ | refine And.intro (.inl (.inl ⟨by omega, by omega⟩)) ?_ | refine And.intro (.inl (.inr ⟨by omega, by omega⟩)) ?_ | refine And.intro ⟨by decide, by decide, by decide⟩ ?_ | refine And.intro (by decide) ?_ | refine And.intro (by omega) ?_ | refine And.intro (by simp only [List.length_cons, List.length_nil]; decide) ?_ | refine And.intro (by simp only [List.length_cons, List.length_nil, List.length_map, List.length_append]; omega) ?_)); (conv => whnf)
        exact ⟨ok.2 d hd, hK⟩
      · (repeat ((conv => whnf); first | refine cnd.yes ?_ | refine cnd.no ?_ | refine cnd.decY (by first | rfl | omega) ?_ | refine cnd.decN (by omega) ?_ | refine cnd.notY (by omega) ?_ | refine cnd.notN (by first | rfl | omega) ?_ | refine cnd.decY (by simp only [List.length_cons, List.length_nil, List.length_map, List.length_append]; omega) ?_ | refine cnd.decN (by simp only [List.length_cons, List.length_nil, List.length_map, List.length_append]; omega) ?_ | refine Exists.intro _ (And.intro atI_zero ?_) | refine Exists.intro _ (And.intro atI_one ?_) | refine Exists.intro _ (And.intro (atI_last _ _) ?_) | refine Exists.intro _ (And.intro (setAt_last _ _ _) ?_) | refine Exists.intro _ (Exists.intro _ (Exists.intro _ (Exists.intro _ (And.intro rfl ?_)))) | refine Exists.intro _ (And.intro rfl ?_) | refine Exists.intro _ (Exists.intro _ (And.intro rfl ?_)) | refine Exists.intro _ (Exists.intro _ (Exists.intro _ (And.intro rfl ?_))) | refine And.intro (cdivW_small (by first | decide | omega) (by first | decide | omega)) ?_ | refine And.intro (.inl (.inl ⟨by omega, by omega⟩)) ?_ | refine And.intro (.inl (.inr ⟨by omega, by omega⟩)) ?_ | refine And.intro ⟨by decide, by decide, by decide⟩ ?_ | refine And.intro (by decide) ?_ | refine And.intro (by omega) ?_ | refine And.intro (by simp only [List.length_cons, List.length_nil]; decide) ?_ | refine And.intro (by simp only [List.length_cons, List.length_nil, List.length_map, List.length_append]; omega) ?_)); (conv => whnf)
        refine ⟨ds.map fun _ => true, by rw [bools_is], ?_⟩
        (repeat ((conv => whnf); first | refine cnd.yes ?_ | refine cnd.no ?_ | refine cnd.decY (by first | rfl | omega) ?_ | refine cnd.decN (by omega) ?_ | refine cnd.notY (by omega) ?_ | refine cnd.notN (by first | rfl | omega) ?_ | refine cnd.decY (by simp only [List.length_cons, List.length_nil, List.length_map, List.length_append]; omega) ?_ | refine cnd.decN (by simp only [List.length_cons, List.length_nil, List.length_map, List.length_append]; omega) ?_ | refine Exists.intro _ (And.intro atI_zero ?_) | refine Exists.intro _ (And.intro atI_one ?_) | refine Exists.intro _ (And.intro (atI_last _ _) ?_) | refine Exists.intro _ (And.intro (setAt_last _ _ _) ?_) | refine Exists.intro _ (Exists.intro _ (Exists.intro _ (Exists.intro _ (And.intro rfl ?_)))) | refine Exists.intro _ (And.intro rfl ?_) | refine Exists.intro _ (Exists.intro _ (And.intro rfl ?_)) | refine Exists.intro _ (Exists.intro _ (Exists.intro _ (And.intro rfl ?_))) | refine And.intro (cdivW_small (by first | decide | omega) (by first | decide | omega)) ?_ | refine And.intro (.inl (.inl ⟨by omega, by omega⟩)) ?_ | refine And.intro (.inl (.inr ⟨by omega, by omega⟩)) ?_ | refine And.intro ⟨by decide, by decide, by decide⟩ ?_ | refine And.intro (by decide) ?_ | refine And.intro (by omega) ?_ | refine And.intro (by simp only [List.length_cons, List.length_nil]; decide) ?_ | refine And.intro (by simp only [List.length_cons, List.length_nil, List.length_map, List.length_append]; omega) ?_)); (conv => whnf)
        have e : ((ds.map fun _ => true).all fun b => b) = true := by rw [List.all_map]; exact List.all_eq_true.mpr fun _ _ => rfl
        rw [e]
        exact q
    | tuple ds =>
      (repeat ((conv => whnf); first | refine cnd.yes ?_ | refine cnd.no ?_ | refine cnd.decY (by first | rfl | omega) ?_ | refine cnd.decN (by omega) ?_ | refine cnd.notY (by omega) ?_ | refine cnd.notN (by first | rfl | omega) ?_ | refine cnd.decY (by simp only [List.length_cons, List.length_nil, List.length_map, List.length_append]; omega) ?_ | refine cnd.decN (by simp only [List.length_cons, List.length_nil, List.length_map, List.length_append]; omega) ?_ | refine Exists.intro _ (And.intro atI_zero ?_) | refine Exists.intro _ (And.intro atI_one ?_) | refine Exists.intro _ (And.intro (atI_last _ _) ?_) | refine Exists.intro _ (And.intro (setAt_last _ _ _) ?_) | refine Exists.intro _ (Exists.intro _ (Exists.intro _ (Exists.intro _ (And.intro rfl ?_)))) | refine Exists.intro _ (And.intro rfl ?_) | refine Exists.intro _ (Exists.intro _ (And.intro rfl ?_)) | refine Exists.intro _ (Exists.intro _ (Exists.intro _ (And.intro rfl ?_))) | refine And.intro (cdivW_small (by first | decide | omega) (by first | decide | omega)) ?_ | refine And.intro (.inl (.inl ⟨by omega, by omega⟩)) ?_ | refine And.intro (.inl (.inr ⟨by omega, by omega⟩)) ?_ | refine And.intro ⟨by decide, by decide, by decide⟩ ?_ | refine And.intro (by decide) ?_ | refine And.intro (by omega) ?_ | refine And.intro (by simp only [List.length_cons, List.length_nil]; decide) ?_ | refine And.intro (by simp only [List.length_cons, List.length_nil, List.length_map, List.length_append]; omega) ?_)); (conv => whnf)
      rw [zipD_self]
      refine lcQ_all ds _ (fun _ => .bool true) ok.1 (fun d hd KK S hK => ?_) ?_
      · (repeat ((conv => whnf); first | refine cnd.yes ?_ | refine cnd.no ?_ | refine cnd.decY (by first | rfl | omega) ?_ | refine cnd.decN (by omega) ?_ | refine cnd.notY (by omega) ?_ | refine cnd.notN (by first | rfl | omega) ?_ | refine cnd.decY (by simp only [List.length_cons, List.length_nil, List.length_map, List.length_append]; omega) ?_ | refine cnd.decN (by simp only [List.length_cons, List.length_nil, List.length_map, List.length_append]; omega) ?_ | refine Exists.intro _ (And.intro atI_zero ?_) | refine Exists.intro _ (And.intro atI_one ?_) | refine Exists.intro _ (And.intro (atI_last _ _) ?_) | refine Exists.intro _ (And.intro (setAt_last _ _ _) ?_) | refine Exists.intro _ (Exists.intro _ (Exists.intro _ (Exists.intro _ (And.intro rfl ?_)))) | refine Exists.intro _ (And.intro rfl ?_) | refine Exists.intro _ (Exists.intro _ (And.intro rfl ?_)) | refine Exists.intro _ (Exists.intro _ (Exists.intro _ (And.intro rfl ?_))) | refine And.intro (cdivW_small (by first | decide | omega) (by first | decide | omega)) ?_ | refine And.intro (.inl (.inl ⟨by omega, by omega⟩)) ?_ | refine And.intro (.inl (.inr ⟨by omega, by omega⟩)) ?_ | refine And.intro ⟨by decide, by decide, by decide⟩ ?_ | refine And.intro (by decide) ?_ | refine And.intro (by omega) ?_ | refine And.intro (by simp only [List.length_cons, List.length_nil]; decide) ?_ | refine And.intro (by simp only [List.length_cons, List.length_nil, List.length_map, List.length_append]; omega) ?_)); (conv => whnf)
        exact ⟨ok.2 d hd, hK⟩
      · (repeat ((conv => whnf); first | refine cnd.yes ?_ | refine cnd.no ?_ | refine cnd.decY (by first | rfl | omega) ?_ | refine cnd.decN (by omega) ?_ | refine cnd.notY (by omega) ?_ | refine cnd.notN (by first | rfl | omega) ?_ | refine cnd.decY (by simp only [List.length_cons, List.length_nil, List.length_map, List.length_append]; omega) ?_ | refine cnd.decN (by simp only [List.length_cons, List.length_nil, List.length_map, List.length_append]; omega) ?_ | refine Exists.intro _ (And.intro atI_zero ?_) | refine Exists.intro _ (And.intro atI_one ?_) | refine Exists.intro _ (And.intro (atI_last _ _) ?_) | refine Exists.intro _ (And.intro (setAt_last _ _ _) ?_) | refine Exists.intro _ (Exists.intro _ (Exists.intro _ (Exists.intro _ (And.intro rfl ?_)))) | refine Exists.intro _ (And.intro rfl ?_) | refine Exists.intro _ (Exists.intro _ (And.intro rfl ?_)) | refine Exists.intro _ (Exists.intro _ (Exists.intro _ (And.intro rfl ?_))) | refine And.intro (cdivW_small (by first | decide | omega) (by first | decide | omega)) ?_ | refine And.intro (.inl (.inl ⟨by omega, by omega⟩)) ?_ | refine And.intro (.inl (.inr ⟨by omega, by omega⟩)) ?_ | refine And.intro ⟨by decide, by decide, by decide⟩ ?_ | refine And.intro (by decide) ?_ | refine And.intro (by omega) ?_ | refine And.intro (by simp only [List.length_cons, List.length_nil]; decide) ?_ | refine And.intro (by simp only [List.length_cons, List.length_nil, List.length_map, List.length_append]; omega) ?_)); (conv => whnf)
        refine ⟨ds.map fun _ => true, by rw [bools_is], ?_⟩
        (repeat ((conv => whnf); first | refine cnd.yes ?_ | refine cnd.no ?_ | refine cnd.decY (by first | rfl | omega) ?_ | refine cnd.decN (by omega) ?_ | refine cnd.notY (by omega) ?_ | refine cnd.notN (by first | rfl | omega) ?_ | refine cnd.decY (by simp only [List.length_cons, List.length_nil, List.length_map, List.length_append]; omega) ?_ | refine cnd.decN (by simp only [List.length_cons, List.length_nil, List.length_map, List.length_append]; omega) ?_ | refine Exists.intro _ (And.intro atI_zero ?_) | refine Exists.intro _ (And.intro atI_one ?_) | refine Exists.intro _ (And.intro (atI_last _ _) ?_) | refine Exists.intro _ (And.intro (setAt_last _ _ _) ?_) | refine Exists.intro _ (Exists.intro _ (Exists.intro _ (Exists.intro _ (And.intro rfl ?_)))) | refine Exists.intro _ (And.intro rfl ?_) | refine Exists.intro _ (Exists.intro _ (And.intro rfl ?_)) | refine Exists.intro _ (Exists.intro _ (Exists.intro _ (And.intro rfl ?_))) | refine And.intro (cdivW_small (by first | decide | omega) (by first | decide | omega)) ?_ | refine And.intro (.inl (.inl ⟨by omega, by omega⟩)) ?_ | refine And.intro (.inl (.inr ⟨by omega, by omega⟩)) ?_ | refine And.intro ⟨by decide, by decide, by decide⟩ ?_ | refine And.intro (by decide) ?_ | refine And.intro (by omega) ?_ | refine And.intro (by simp only [List.length_cons, List.length_nil]; decide) ?_ | refine And.intro (by simp only [List.length_cons, List.length_nil, List.length_map, List.length_append]; omega) ?_)); (conv => whnf)
        have e : ((ds.map fun _ => true).all fun b => b) = true := by rw [List.all_map]; exact List.all_eq_true.mpr fun _ _ => rfl
        rw [e]
        exact q
    | int i =>
      (repeat ((conv => whnf); first | refine cnd.yes ?_ | refine cnd.no ?_ | refine cnd.decY (by first | rfl | omega) ?_ | refine cnd.decN (by omega) ?_ | refine cnd.notY (by omega) ?_ | refine cnd.notN (by first | rfl | omega) ?_ | refine cnd.decY (by simp only [List.length_cons, List.length_nil, List.length_map, List.length_append]; omega) ?_ | refine cnd.decN (by simp only [List.length_cons, List.length_nil, List.length_map, List.length_append]; omega) ?_ | refine Exists.intro _ (And.intro atI_zero ?_) | refine Exists.intro _ (And.intro atI_one ?_) | refine Exists.intro _ (And.intro (atI_last _ _) ?_) | refine Exists.intro _ (And.intro (setAt_last _ _ _) ?_) | refine Exists.intro _ (Exists.intro _ (Exists.intro _ (Exists.intro _ (And.intro rfl ?_)))) | refine Exists.intro _ (And.intro rfl ?_) | refine Exists.intro _ (Exists.intro _ (And.intro rfl ?_)) | refine Exists.intro _ (Exists.intro _ (Exists.intro _ (And.intro rfl ?_))) | refine And.intro (cdivW_small (by first | decide | omega) (by first | decide | omega)) ?_ | refine And.intro (.inl (.inl ⟨by omega, by omega⟩)) ?_ | refine And.intro (.inl (.inr ⟨by omega, by omega⟩)) ?_ | refine And.intro ⟨by decide, by decide, by decide⟩ ?_ | refine And.intro (by decide) ?_ | refine And.intro (by omega) ?_ | refine And.intro (by simp only [List.length_cons, List.length_nil]; decide) ?_ | refine And.intro (by simp only [List.length_cons, List.length_nil, List.length_map, List.length_append]; omega) ?_)); (conv => whnf)
      rw [decide_eq_true rfl]
      exact q
    | bool b =>
      (repeat ((conv => whnf); first | refine cnd.yes ?_ | refine cnd.no ?_ | refine cnd.decY (by first | rfl | omega) ?_ | refine cnd.decN (by omega) ?_ | refine cnd.notY (by omega) ?_ | refine cnd.notN (by first | rfl | omega) ?_ | refine cnd.decY (by simp only [List.length_cons, List.length_nil, List.length_map, List.length_append]; omega) ?_ | refine cnd.decN (by simp only [List.length_cons, List.length_nil, List.length_map, List.length_append]; omega) ?_ | refine Exists.intro _ (And.intro atI_zero ?_) | refine Exists.intro _ (And.intro atI_one ?_) | refine Exists.intro _ (And.intro (atI_last _ _) ?_) | refine Exists.intro _ (And.intro (setAt_last _ _ _) ?_) | refine Exists.intro _ (Exists.intro _ (Exists.intro _ (Exists.intro _ (And.intro rfl ?_)))) | refine Exists.intro _ (And.intro rfl ?_) | refine Exists.intro _ (Exists.intro _ (And.intro rfl ?_)) | refine Exists.intro _ (Exists.intro _ (Exists.intro _ (And.intro rfl ?_))) | refine And.intro (cdivW_small (by first | decide | omega) (by first | decide | omega)) ?_ | refine And.intro (.inl (.inl ⟨by omega, by omega⟩)) ?_ | refine And.intro (.inl (.inr ⟨by omega, by omega⟩)) ?_ | refine And.intro ⟨by decide, by decide, by decide⟩ ?_ | refine And.intro (by decide) ?_ | refine And.intro (by omega) ?_ | refine And.intro (by simp only [List.length_cons, List.length_nil]; decide) ?_ | refine And.intro (by simp only [List.length_cons, List.length_nil, List.length_map, List.length_append]; omega) ?_)); (conv => whnf)
      exact q
    | none =>
      (repeat ((conv => whnf); first | refine cnd.yes ?_ | refine cnd.no ?_ | refine cnd.decY (by first | rfl | omega) ?_ | refine cnd.decN (by omega) ?_ | refine cnd.notY (by omega) ?_ | refine cnd.notN (by first | rfl | omega) ?_ | refine cnd.decY (by simp only [List.length_cons, List.length_nil, List.length_map, List.length_append]; omega) ?_ | refine cnd.decN (by simp only [List.length_cons, List.length_nil, List.length_map, List.length_append]; omega) ?_ | refine Exists.intro _ (And.intro atI_zero ?_) | refine Exists.intro _ (And.intro atI_one ?_) | refine Exists.intro _ (And.intro (atI_last _ _) ?_) | refine Exists.intro _ (And.intro (setAt_last _ _ _) ?_) | refine Exists.intro _ (Exists.intro _ (Exists.intro _ (Exists.intro _ (And.intro rfl ?_)))) | refine Exists.intro _ (And.intro rfl ?_) | refine Exists.intro _ (Exists.intro _ (And.intro rfl ?_)) | refine Exists.intro _ (Exists.intro _ (Exists.intro _ (And.intro rfl ?_))) | refine And.intro (cdivW_small (by first | decide | omega) (by first | decide | omega)) ?_ | refine And.intro (.inl (.inl ⟨by omega, by omega⟩)) ?_ | refine And.intro (.inl (.inr ⟨by omega, by omega⟩)) ?_ | refine And.intro ⟨by decide, by decide, by decide⟩ ?_ | refine And.intro (by decide) ?_ | refine And.intro (by omega) ?_ | refine And.intro (by simp only [List.length_cons, List.length_nil]; decide) ?_ | refine And.intro (by simp only [List.length_cons, List.length_nil, List.length_map, List.length_append]; omega) ?_)); (conv => whnf)
      exact q
    | str s =>
      (repeat ((conv => whnf); first | refine cnd.yes ?_ | refine cnd.no ?_ | refine cnd.decY (by first | rfl | omega) ?_ | refine cnd.decN (by omega) ?_ | refine cnd.notY (by omega) ?_ | refine cnd.notN (by first | rfl | omega) ?_ | refine cnd.decY (by simp only [List.length_cons, List.length_nil, List.length_map, List.length_append]; omega) ?_ | refine cnd.decN (by simp only [List.length_cons, List.length_nil, List.length_map, List.length_append]; omega) ?_ | refine Exists.intro _ (And.intro atI_zero ?_) | refine Exists.intro _ (And.intro atI_one ?_) | refine Exists.intro _ (And.intro (atI_last _ _) ?_) | refine Exists.intro _ (And.intro (setAt_last _ _ _) ?_) | refine Exists.intro _ (Exists.intro _ (Exists.intro _ (Exists.intro _ (And.intro rfl ?_)))) | refine Exists.intro _ (And.intro rfl ?_) | refine Exists.intro _ (Exists.intro _ (And.intro rfl ?_)) | refine Exists.intro _ (Exists.intro _ (Exists.intro _ (And.intro rfl ?_))) | refine And.intro (cdivW_small (by first | decide | omega) (by first | decide | omega)) ?_ | refine And.intro (.inl (.inl ⟨by omega, by omega⟩)) ?_ | refine And.intro (.inl (.inr ⟨by omega, by omega⟩)) ?_ | refine And.intro ⟨by decide, by decide, by decide⟩ ?_ | refine And.intro (by decide) ?_ | refine And.intro (by omega) ?_ | refine And.intro (by simp only [List.length_cons, List.length_nil]; decide) ?_ | refine And.intro (by simp only [List.length_cons, List.length_nil, List.length_map, List.length_append]; omega) ?_)); (conv => whnf)
      exact q
    | dict _ => exact ok.elim

/-! ### rows and fillings, by the program -/
def Φ_tupled (n : Nat) : PhiP := fun ds Q => ∃ d, ds = [d] ∧ okN n d ∧ Q (tupD n d)
theorem m_tupled (n : Nat) : ∀ {ds : List PD} {Q Q' : PD → Prop}, (∀ d, Q d → Q' d) → Φ_tupled n ds Q → Φ_tupled n ds Q' := fun h ⟨d, e, ok, q⟩ => ⟨d, e, ok, h _ q⟩
theorem l_tupled (n : Nat) : ∀ ds Q, Φ_tupled n ds Q → ds.length = 1 := fun ds Q ⟨d, e, _⟩ => by rw [e]; rfl
theorem at_tupled (T : Tp K mg) : ∀ n, FnAt P w K mg base "tupled" (n + 1) (spP K (Φ_tupled n))
  | 0 => by
    obtain ⟨f, fd, F, hm, hb⟩ := T.d_tupled
    exact ⟨f, fd, ["thing"], fn_p F sc_tupled (l_tupled 0) fun cdv A outer s H E hr => ⟨_, dss_never, fun ds Q h => by obtain ⟨d, _, h, _⟩ := h; exact h⟩, hm, F.kp, hb⟩
  | n + 1 => by
    obtain ⟨f, fd, F, hm, hb⟩ := T.d_tupled
    have ih := at_tupled T n
    refine ⟨f, fd, ["thing"], fn_p F sc_tupled (l_tupled (n + 1)) fun cdv A outer s H E hr => ⟨_, (dss_one (ds_ret (de_if (dt_val (de_isi2 kit_list kit_tuple T.isinstance T.list b_list T.tuple b_tuple (de_var 0))) (de_callTy tuple_ok tupleW_m T.tuple b_tuple (de_lc rfl sc_tupled.nd (blkOk_by (N := ["thing", "part"]) (sc := defScope s_tupled) (own := [("part", 1)]) (by decide +kernel)) (lc_ok (di_exp (de_var 0)) (fun _ _ _ _ _ => (dg_n 1 sc_tupled.nd)) (fun _ _ _ _ _ => dp_nil) (fun _ _ _ _ _ => (de_call ih hr (m_tupled _) (da_cons (de_var 1) da_nil) (hk := Nat.le_refl _)))))) (de_var 0)))), fun ds Q h => ?_⟩, hm, F.kp, hb⟩
    obtain ⟨d, rfl, ok, q⟩ := h
    cases d with
    | list ds =>
      (repeat ((conv => whnf); first | refine cnd.yes ?_ | refine cnd.no ?_ | refine cnd.decY (by first | rfl | omega) ?_ | refine cnd.decN (by omega) ?_ | refine cnd.notY (by omega) ?_ | refine cnd.notN (by first | rfl | omega) ?_ | refine cnd.decY (by simp only [List.length_cons, List.length_nil, List.length_map, List.length_append]; omega) ?_ | refine cnd.decN (by simp only [List.length_cons, List.length_nil, List.length_map, List.length_append]; omega) ?_ | refine Exists.intro _ (And.intro atI_zero ?_) | refine Exists.intro _ (And.intro atI_one ?_) | refine Exists.intro _ (And.intro (atI_last _ _) ?_) | refine Exists.intro _ (And.intro (setAt_last _ _ _) ?_) | refine Exists.intro _ (Exists.intro _ (Exists.intro _ (Exists.intro _ (And.intro rfl ?_)))) | refine Exists.intro _ (And.intro rfl ?_) | refine Exists.intro _ (Exists.intro _ (And.intro rfl ?_)) | refine Exists.intro _ (Exists.intro _ (Exists.intro _ (And.intro rfl ?_))) | refine And.intro (cdivW_small (by first | decide | omega) (by first | decide | omega)) ?_ | refine And.intro (.inl (.inl ⟨by omega, by omega⟩)) ?_ | refine And.intro (.inl (.inr ⟨by omega, by omega⟩)) ?_ | refine And.intro ⟨by decide, by decide, by decide⟩ ?_ | refine And.intro (by decide) ?_ | refine And.intro (by omega) ?_ | refine And.intro (by simp only [List.length_cons, List.length_nil]; decide) ?_ | refine And.intro (by simp only [List.length_cons, List.length_nil, List.length_map, List.length_append]; omega) ?_)); (conv => whnf)
      refine lcQ_id ds (tupD n) ok.1 (fun d hd KK S hK => ?_) ?_
      · (repeat ((conv => whnf); first | refine cnd.yes ?_ | refine cnd.no ?_ | refine cnd.decY (by first | rfl | omega) ?_ | refine cnd.decN (by omega) ?_ | refine cnd.notY (by omega) ?_ | refine cnd.notN (by first | rfl | omega) ?_ | refine cnd.decY (by simp only [List.length_cons, List.length_nil, List.length_map, List.length_append]; omega) ?_ | refine cnd.decN (by simp only [List.length_cons, List.length_nil, List.length_map, List.length_append]; omega) ?_ | refine Exists.intro _ (And.intro atI_zero ?_) | refine Exists.intro _ (And.intro atI_one ?_) | refine Exists.intro _ (And.intro (atI_last _ _) ?_) | refine Exists.intro _ (And.intro (setAt_last _ _ _) ?_) | refine Exists.intro _ (Exists.intro _ (Exists.intro _ (Exists.intro _ (And.intro rfl ?_)))) | refine Exists.intro _ (And.intro rfl ?_) | refine Exists.intro _ (Exists.intro _ (And.intro rfl ?_)) | refine Exists.intro _ (Exists.intro _ (Exists.intro _ (And.intro rfl ?_))) | refine And.intro (cdivW_small (by first | decide | omega) (by first | decide | omega)) ?_ | refine And.intro (.inl (.inl ⟨by omega, by omega⟩)) ?_ | refine And.intro (.inl (.inr ⟨by omega, by omega⟩)) ?_ | refine And.intro ⟨by decide, by decide, by decide⟩ ?_ | refine And.intro (by decide) ?_ | refine And.intro (by omega) ?_ | refine And.intro (by simp only [List.length_cons, List.length_nil]; decide) ?_ | refine And.intro (by simp only [List.length_cons, List.length_nil, List.length_map, List.length_append]; omega) ?_)); (conv => whnf)
        exact ⟨ok.2 d hd, hK⟩
      · (repeat ((conv => whnf); first | refine cnd.yes ?_ | refine cnd.no ?_ | refine cnd.decY (by first | rfl | omega) ?_ | refine cnd.decN (by omega) ?_ | refine cnd.notY (by omega) ?_ | refine cnd.notN (by first | rfl | omega) ?_ | refine cnd.decY (by simp only [List.length_cons, List.length_nil, List.length_map, List.length_append]; omega) ?_ | refine cnd.decN (by simp only [List.length_cons, List.length_nil, List.length_map, List.length_append]; omega) ?_ | refine Exists.intro _ (And.intro atI_zero ?_) | refine Exists.intro _ (And.intro atI_one ?_) | refine Exists.intro _ (And.intro (atI_last _ _) ?_) | refine Exists.intro _ (And.intro (setAt_last _ _ _) ?_) | refine Exists.intro _ (Exists.intro _ (Exists.intro _ (Exists.intro _ (And.intro rfl ?_)))) | refine Exists.intro _ (And.intro rfl ?_) | refine Exists.intro _ (Exists.intro _ (And.intro rfl ?_)) | refine Exists.intro _ (Exists.intro _ (Exists.intro _ (And.intro rfl ?_))) | refine And.intro (cdivW_small (by first | decide | omega) (by first | decide | omega)) ?_ | refine And.intro (.inl (.inl ⟨by omega, by omega⟩)) ?_ | refine And.intro (.inl (.inr ⟨by omega, by omega⟩)) ?_ | refine And.intro ⟨by decide, by decide, by decide⟩ ?_ | refine And.intro (by decide) ?_ | refine And.intro (by omega) ?_ | refine And.intro (by simp only [List.length_cons, List.length_nil]; decide) ?_ | refine And.intro (by simp only [List.length_cons, List.length_nil, List.length_map, List.length_append]; omega) ?_)); (conv => whnf)
        exact q
    | tuple ds =>
      (repeat ((conv => whnf); first | refine cnd.yes ?_ | refine cnd.no ?_ | refine cnd.decY (by first | rfl | omega) ?_ | refine cnd.decN (by omega) ?_ | refine cnd.notY (by omega) ?_ | refine cnd.notN (by first | rfl | omega) ?_ | refine cnd.decY (by simp only [List.length_cons, List.length_nil, List.length_map, List.length_append]; omega) ?_ | refine cnd.decN (by simp only [List.length_cons, List.length_nil, List.length_map, List.length_append]; omega) ?_ | refine Exists.intro _ (And.intro atI_zero ?_) | refine Exists.intro _ (And.intro atI_one ?_) | refine Exists.intro _ (And.intro (atI_last _ _) ?_) | refine Exists.intro _ (And.intro (setAt_last _ _ _) ?_) | refine Exists.intro _ (Exists.intro _ (Exists.intro _ (Exists.intro _ (And.intro rfl ?_)))) | refine Exists.intro _ (And.intro rfl ?_) | refine Exists.intro _ (Exists.intro _ (And.intro rfl ?_)) | refine Exists.intro _ (Exists.intro _ (Exists.intro _ (And.intro rfl ?_))) | refine And.intro (cdivW_small (by first | decide | omega) (by first | decide | omega)) ?_ | refine And.intro (.inl (.inl ⟨by omega, by omega⟩)) ?_ | refine And.intro (.inl (.inr ⟨by omega, by omega⟩)) ?_ | refine And.intro ⟨by decide, by decide, by decide⟩ ?_ | refine And.intro (by decide) ?_ | refine And.intro (by omega) ?_ | refine And.intro (by simp only [List.length_cons, List.length_nil]; decide) ?_ | refine And.intro (by simp only [List.length_cons, List.length_nil, List.length_map, List.length_append]; omega) ?_)); (conv => whnf)
      refine lcQ_id ds (tupD n) ok.1 (fun d hd KK S hK => ?_) ?_
      · (repeat ((conv => whnf); first | refine cnd.yes ?_ | refine cnd.no ?_ | refine cnd.decY (by first | rfl | omega) ?_ | refine cnd.decN (by omega) ?_ | refine cnd.notY (by omega) ?_ | refine cnd.notN (by first | rfl | omega) ?_ | refine cnd.decY (by simp only [List.length_cons, List.length_nil, List.length_map, List.length_append]; omega) ?_ | refine cnd.decN (by simp only [List.length_cons, List.length_nil, List.length_map, List.length_append]; omega) ?_ | refine Exists.intro _ (And.intro atI_zero ?_) | refine Exists.intro _ (And.intro atI_one ?_) | refine Exists.intro _ (And.intro (atI_last _ _) ?_) | refine Exists.intro _ (And.intro (setAt_last _ _ _) ?_) | refine Exists.intro _ (Exists.intro _ (Exists.intro _ (Exists.intro _ (And.intro rfl ?_)))) | refine Exists.intro _ (And.intro rfl ?_) | refine Exists.intro _ (Exists.intro _ (And.intro rfl ?_)) | refine Exists.intro _ (Exists.intro _ (Exists.intro _ (And.intro rfl ?_))) | refine And.intro (cdivW_small (by first | decide | omega) (by first | decide | omega)) ?_ | refine And.intro (.inl (.inl ⟨by omega, by omega⟩)) ?_ | refine And.intro (.inl (.inr ⟨by omega, by omega⟩)) ?_ | refine And.intro ⟨by decide, by decide, by decide⟩ ?_ | refine And.intro (by decide) ?_ | refine And.intro (by omega) ?_ | refine And.intro (by simp only [List.length_cons, List.length_nil]; decide) ?_ | refine And.intro (by simp only [List.length_cons, List.length_nil, List.length_map, List.length_append]; omega) ?_)); (conv => whnf)
        exact ⟨ok.2 d hd, hK⟩
      · (repeat ((conv => whnf); first | refine cnd.yes ?_ | refine cnd.no ?_ | refine cnd.decY (by first | rfl | omega) ?_ | refine cnd.decN (by omega) ?_ | refine cnd.notY (by omega) ?_ | refine cnd.notN (by first | rfl | omega) ?_ | refine cnd.decY (by simp only [List.length_cons, List.length_nil, List.length_map, List.length_append]; omega) ?_ | refine cnd.decN (by simp only [List.length_cons, List.length_nil, List.length_map, List.length_append]; omega) ?_ | refine Exists.intro _ (And.intro atI_zero ?_) | refine Exists.intro _ (And.intro atI_one ?_) | refine Exists.intro _ (And.intro (atI_last _ _) ?_) | refine Exists.intro _ (And.intro (setAt_last _ _ _) ?_) | refine Exists.intro _ (Exists.intro _ (Exists.intro _ (Exists.intro _ (And.intro rfl ?_)))) | refine Exists.intro _ (And.intro rfl ?_) | refine Exists.intro _ (Exists.intro _ (And.intro rfl ?_)) | refine Exists.intro _ (Exists.intro _ (Exists.intro _ (And.intro rfl ?_))) | refine And.intro (cdivW_small (by first | decide | omega) (by first | decide | omega)) ?_ | refine And.intro (.inl (.inl ⟨by omega, by omega⟩)) ?_ | refine And.intro (.inl (.inr ⟨by omega, by omega⟩)) ?_ | refine And.intro ⟨by decide, by decide, by decide⟩ ?_ | refine And.intro (by decide) ?_ | refine And.intro (by omega) ?_ | refine And.intro (by simp only [List.length_cons, List.length_nil]; decide) ?_ | refine And.intro (by simp only [List.length_cons, List.length_nil, List.length_map, List.length_append]; omega) ?_)); (conv => whnf)
        exact q
    | dict _ => exact ok.elim
    | int i => (repeat ((conv => whnf); first | refine cnd.yes ?_ | refine cnd.no ?_ | refine cnd.decY (by first | rfl | omega) ?_ | refine cnd.decN (by omega) ?_ | refine cnd.notY (by omega) ?_ | refine cnd.notN (by first | rfl | omega) ?_ | refine cnd.decY (by simp only [List.length_cons, List.length_nil, List.length_map, List.length_append]; omega) ?_ | refine cnd.decN (by simp only [List.length_cons, List.length_nil, List.length_map, List.length_append]; omega) ?_ | refine Exists.intro _ (And.intro atI_zero ?_) | refine Exists.intro _ (And.intro atI_one ?_) | refine Exists.intro _ (And.intro (atI_last _ _) ?_) | refine Exists.intro _ (And.intro (setAt_last _ _ _) ?_) | refine Exists.intro _ (Exists.intro _ (Exists.intro _ (Exists.intro _ (And.intro rfl ?_)))) | refine Exists.intro _ (And.intro rfl ?_) | refine Exists.intro _ (Exists.intro _ (And.intro rfl ?_)) | refine Exists.intro _ (Exists.intro _ (Exists.intro _ (And.intro rfl ?_))) | refine And.intro (cdivW_small (by first | decide | omega) (by first | decide | omega)) ?_ | refine And.intro (.inl (.inl ⟨by omega, by omega⟩)) ?_ | refine And.intro (.inl (.inr ⟨by omega, by omega⟩)) ?_ | refine And.intro ⟨by decide, by decide, by decide⟩ ?_ | refine And.intro (by decide) ?_ | refine And.intro (by omega) ?_ | refine And.intro (by simp only [List.length_cons, List.length_nil]; decide) ?_ | refine And.intro (by simp only [List.length_cons, List.length_nil, List.length_map, List.length_append]; omega) ?_)); (conv => whnf); exact q
    | bool i => (repeat ((conv => whnf); first | refine cnd.yes ?_ | refine cnd.no ?_ | refine cnd.decY (by first | rfl | omega) ?_ | refine cnd.decN (by omega) ?_ | refine cnd.notY (by omega) ?_ | refine cnd.notN (by first | rfl | omega) ?_ | refine cnd.decY (by simp only [List.length_cons, List.length_nil, List.length_map, List.length_append]; omega) ?_ | refine cnd.decN (by simp only [List.length_cons, List.length_nil, List.length_map, List.length_append]; omega) ?_ | refine Exists.intro _ (And.intro atI_zero ?_) | refine Exists.intro _ (And.intro atI_one ?_) | refine Exists.intro _ (And.intro (atI_last _ _) ?_) | refine Exists.intro _ (And.intro (setAt_last _ _ _) ?_) | refine Exists.intro _ (Exists.intro _ (Exists.intro _ (Exists.intro _ (And.intro rfl ?_)))) | refine Exists.intro _ (And.intro rfl ?_) | refine Exists.intro _ (Exists.intro _ (And.intro rfl ?_)) | refine Exists.intro _ (Exists.intro _ (Exists.intro _ (And.intro rfl ?_))) | refine And.intro (cdivW_small (by first | decide | omega) (by first | decide | omega)) ?_ | refine And.intro (.inl (.inl ⟨by omega, by omega⟩)) ?_ | refine And.intro (.inl (.inr ⟨by omega, by omega⟩)) ?_ | refine And.intro ⟨by decide, by decide, by decide⟩ ?_ | refine And.intro (by decide) ?_ | refine And.intro (by omega) ?_ | refine And.intro (by simp only [List.length_cons, List.length_nil]; decide) ?_ | refine And.intro (by simp only [List.length_cons, List.length_nil, List.length_map, List.length_append]; omega) ?_)); (conv => whnf); exact q
    | str i => (repeat ((conv => whnf); first | refine cnd.yes ?_ | refine cnd.no ?_ | refine cnd.decY (by first | rfl | omega) ?_ | refine cnd.decN (by omega) ?_ | refine cnd.notY (by omega) ?_ | refine cnd.notN (by first | rfl | omega) ?_ | refine cnd.decY (by simp only [List.length_cons, List.length_nil, List.length_map, List.length_append]; omega) ?_ | refine cnd.decN (by simp only [List.length_cons, List.length_nil, List.length_map, List.length_append]; omega) ?_ | refine Exists.intro _ (And.intro atI_zero ?_) | refine Exists.intro _ (And.intro atI_one ?_) | refine Exists.intro _ (And.intro (atI_last _ _) ?_) | refine Exists.intro _ (And.intro (setAt_last _ _ _) ?_) | refine Exists.intro _ (Exists.intro _ (Exists.intro _ (Exists.intro _ (And.intro rfl ?_)))) | refine Exists.intro _ (And.intro rfl ?_) | refine Exists.intro _ (Exists.intro _ (And.intro rfl ?_)) | refine Exists.intro _ (Exists.intro _ (Exists.intro _ (And.intro rfl ?_))) | refine And.intro (cdivW_small (by first | decide | omega) (by first | decide | omega)) ?_ | refine And.intro (.inl (.inl ⟨by omega, by omega⟩)) ?_ | refine And.intro (.inl (.inr ⟨by omega, by omega⟩)) ?_ | refine And.intro ⟨by decide, by decide, by decide⟩ ?_ | refine And.intro (by decide) ?_ | refine And.intro (by omega) ?_ | refine And.intro (by simp only [List.length_cons, List.length_nil]; decide) ?_ | refine And.intro (by simp only [List.length_cons, List.length_nil, List.length_map, List.length_append]; omega) ?_)); (conv => whnf); exact q
    | none => (repeat ((conv => whnf); first | refine cnd.yes ?_ | refine cnd.no ?_ | refine cnd.decY (by first | rfl | omega) ?_ | refine cnd.decN (by omega) ?_ | refine cnd.notY (by omega) ?_ | refine cnd.notN (by first | rfl | omega) ?_ | refine cnd.decY (by simp only [List.length_cons, List.length_nil, List.length_map, List.length_append]; omega) ?_ | refine cnd.decN (by simp only [List.length_cons, List.length_nil, List.length_map, List.length_append]; omega) ?_ | refine Exists.intro _ (And.intro atI_zero ?_) | refine Exists.intro _ (And.intro atI_one ?_) | refine Exists.intro _ (And.intro (atI_last _ _) ?_) | refine Exists.intro _ (And.intro (setAt_last _ _ _) ?_) | refine Exists.intro _ (Exists.intro _ (Exists.intro _ (Exists.intro _ (And.intro rfl ?_)))) | refine Exists.intro _ (And.intro rfl ?_) | refine Exists.intro _ (Exists.intro _ (And.intro rfl ?_)) | refine Exists.intro _ (Exists.intro _ (Exists.intro _ (And.intro rfl ?_))) | refine And.intro (cdivW_small (by first | decide | omega) (by first | decide | omega)) ?_ | refine And.intro (.inl (.inl ⟨by omega, by omega⟩)) ?_ | refine And.intro (.inl (.inr ⟨by omega, by omega⟩)) ?_ | refine And.intro ⟨by decide, by decide, by decide⟩ ?_ | refine And.intro (by decide) ?_ | refine And.intro (by omega) ?_ | refine And.intro (by simp only [List.length_cons, List.length_nil]; decide) ?_ | refine And.intro (by simp only [List.length_cons, List.length_nil, List.length_map, List.length_append]; omega) ?_)); (conv => whnf); exact q
def Φ_is_number : PhiP := fun ds Q => ∃ i l : Int, ds = [.int i, .int l] ∧ Q (.bool (decide (l ≤ i)))
theorem m_is_number : ∀ {ds : List PD} {Q Q' : PD → Prop}, (∀ d, Q d → Q' d) → Φ_is_number ds Q → Φ_is_number ds Q' := fun h ⟨i, l, e, q⟩ => ⟨i, l, e, h _ q⟩
theorem l_is_number : ∀ ds Q, Φ_is_number ds Q → ds.length = 2 := fun ds Q ⟨i, l, e, _⟩ => by rw [e]; rfl
theorem at_is_number (T : Tp K mg) : FnAt P w K mg base "is_number" 1 (spP K Φ_is_number) := by
  obtain ⟨f, fd, F, hm, hb⟩ := T.d_is_number
  refine ⟨f, fd, ["thing", "least"], fn_p F sc_is_number l_is_number fun cdv A outer s H E hr => ⟨_, (dss_one (ds_ret (de_and (de_isi kit_int T.isinstance T.int b_int (de_var 0)) (de_and (de_not (de_isi kit_bool T.isinstance T.bool b_bool (de_var 0))) (de_one (de_cmp (hu65 hr) (de_var 0) (de_var 1))))))), fun ds Q h => ?_⟩, hm, F.kp, hb⟩
  obtain ⟨i, l, rfl, q⟩ := h
  (repeat ((conv => whnf); first | refine cnd.yes ?_ | refine cnd.no ?_ | refine cnd.decY (by first | rfl | omega) ?_ | refine cnd.decN (by omega) ?_ | refine cnd.notY (by omega) ?_ | refine cnd.notN (by first | rfl | omega) ?_ | refine cnd.decY (by simp only [List.length_cons, List.length_nil, List.length_map, List.length_append]; omega) ?_ | refine cnd.decN (by simp only [List.length_cons, List.length_nil, List.length_map, List.length_append]; omega) ?_ | refine Exists.intro _ (And.intro atI_zero ?_) | refine Exists.intro _ (And.intro atI_one ?_) | refine Exists.intro _ (And.intro (atI_last _ _) ?_) | refine Exists.intro _ (And.intro (setAt_last _ _ _) ?_) | refine Exists.intro _ (Exists.intro _ (Exists.intro _ (Exists.intro _ (And.intro rfl ?_)))) | refine Exists.intro _ (And.intro rfl ?_) | refine Exists.intro _ (Exists.intro _ (And.intro rfl ?_)) | refine Exists.intro _ (Exists.intro _ (Exists.intro _ (And.intro rfl ?_))) | refine And.intro (cdivW_small (by first | decide | omega) (by first | decide | omega)) ?_ | refine And.intro (.inl (.inl ⟨by omega, by omega⟩)) ?_ | refine And.intro (.inl (.inr ⟨by omega, by omega⟩)) ?_ | refine And.intro ⟨by decide, by decide, by decide⟩ ?_ | refine And.intro (by decide) ?_ | refine And.intro (by omega) ?_ | refine And.intro (by simp only [List.length_cons, List.length_nil]; decide) ?_ | refine And.intro (by simp only [List.length_cons, List.length_nil, List.length_map, List.length_append]; omega) ?_)); (conv => whnf)
  exact q
def isTup (d : PD) (m : Int) : Bool := match d with
  | .tuple xs => decide ((xs.length : Int) = m)
  | _ => false
def Φ_is_tuple : PhiP := fun ds Q => ∃ (d : PD) (m : Int), ds = [d, .int m] ∧ Q (.bool (isTup d m))
theorem m_is_tuple : ∀ {ds : List PD} {Q Q' : PD → Prop}, (∀ d, Q d → Q' d) → Φ_is_tuple ds Q → Φ_is_tuple ds Q' := fun h ⟨i, l, e, q⟩ => ⟨i, l, e, h _ q⟩
theorem l_is_tuple : ∀ ds Q, Φ_is_tuple ds Q → ds.length = 2 := fun ds Q ⟨i, l, e, _⟩ => by rw [e]; rfl
theorem at_is_tuple (T : Tp K mg) : FnAt P w K mg base "is_tuple" 1 (spP K Φ_is_tuple) := by
  obtain ⟨f, fd, F, hm, hb⟩ := T.d_is_tuple
  refine ⟨f, fd, ["thing", "many"], fn_p F sc_is_tuple l_is_tuple fun cdv A outer s H E hr => ⟨_, (dss_one (ds_ret (de_and (de_isi kit_tuple T.isinstance T.tuple b_tuple (de_var 0)) (de_one (de_cmp (hu65 hr) (de_callB len_ok lenW_m T.len b_len (de_var 0)) (de_var 1)))))), fun ds Q h => ?_⟩, hm, F.kp, hb⟩
  obtain ⟨d, m, rfl, q⟩ := h
  cases d <;> ((repeat ((conv => whnf); first | refine cnd.yes ?_ | refine cnd.no ?_ | refine cnd.decY (by first | rfl | omega) ?_ | refine cnd.decN (by omega) ?_ | refine cnd.notY (by omega) ?_ | refine cnd.notN (by first | rfl | omega) ?_ | refine cnd.decY (by simp only [List.length_cons, List.length_nil, List.length_map, List.length_append]; omega) ?_ | refine cnd.decN (by simp only [List.length_cons, List.length_nil, List.length_map, List.length_append]; omega) ?_ | refine Exists.intro _ (And.intro atI_zero ?_) | refine Exists.intro _ (And.intro atI_one ?_) | refine Exists.intro _ (And.intro (atI_last _ _) ?_) | refine Exists.intro _ (And.intro (setAt_last _ _ _) ?_) | refine Exists.intro _ (Exists.intro _ (Exists.intro _ (Exists.intro _ (And.intro rfl ?_)))) | refine Exists.intro _ (And.intro rfl ?_) | refine Exists.intro _ (Exists.intro _ (And.intro rfl ?_)) | refine Exists.intro _ (Exists.intro _ (Exists.intro _ (And.intro rfl ?_))) | refine And.intro (cdivW_small (by first | decide | omega) (by first | decide | omega)) ?_ | refine And.intro (.inl (.inl ⟨by omega, by omega⟩)) ?_ | refine And.intro (.inl (.inr ⟨by omega, by omega⟩)) ?_ | refine And.intro ⟨by decide, by decide, by decide⟩ ?_ | refine And.intro (by decide) ?_ | refine And.intro (by omega) ?_ | refine And.intro (by simp only [List.length_cons, List.length_nil]; decide) ?_ | refine And.intro (by simp only [List.length_cons, List.length_nil, List.length_map, List.length_append]; omega) ?_)); (conv => whnf); exact q)
def Φ_records : PhiP := fun ds Q => ∃ r : List Int, ds = [encI r] ∧ r.length ≤ 1000 ∧ Q (encI (recs r))
theorem m_records : ∀ {ds : List PD} {Q Q' : PD → Prop}, (∀ d, Q d → Q' d) → Φ_records ds Q → Φ_records ds Q' := fun h ⟨i, l, e, q⟩ => ⟨i, l, e, h _ q⟩
theorem l_records : ∀ ds Q, Φ_records ds Q → ds.length = 1 := fun ds Q ⟨i, l, e, _⟩ => by rw [l]; rfl
theorem at_records (T : Tp K mg) : FnAt P w K mg base "records" 1 (spP K Φ_records) := by
  obtain ⟨f, fd, F, hm, hb⟩ := T.d_records
  refine ⟨f, fd, ["row"], fn_p F sc_records l_records fun cdv A outer s H E hr => ⟨_, (dss_cons (ds_set true 1 sc_records.nd (de_lst da_nil))
    (dss_cons (ds_for PassesOwn.never rfl (di_exp (de_var 0)) (dg_n 2 sc_records.nd) (dss_one (ds_if (dt_w (dw_or (dt_cmp (hu65 hr) (de_callB len_ok lenW_m T.len b_len (de_var 1)) de_int) (dw_or1 (dt_cmp (hu65 hr) (de_var 2) (de_ix (de_var 1) (de_neg de_int)))))) (dss_one (ds_app 1 (de_var 2))) dss_nil)))
    (dss_one (ds_ret (de_callTy tuple_ok tupleW_m T.tuple b_tuple (de_var 1)))))), fun ds Q h => ?_⟩, hm, F.kp, hb⟩
  obtain ⟨r, rfl, hl, q⟩ := h
  (repeat ((conv => whnf); first | refine cnd.yes ?_ | refine cnd.no ?_ | refine cnd.decY (by first | rfl | omega) ?_ | refine cnd.decN (by omega) ?_ | refine cnd.notY (by omega) ?_ | refine cnd.notN (by first | rfl | omega) ?_ | refine cnd.decY (by simp only [List.length_cons, List.length_nil, List.length_map, List.length_append]; omega) ?_ | refine cnd.decN (by simp only [List.length_cons, List.length_nil, List.length_map, List.length_append]; omega) ?_ | refine Exists.intro _ (And.intro atI_zero ?_) | refine Exists.intro _ (And.intro atI_one ?_) | refine Exists.intro _ (And.intro (atI_last _ _) ?_) | refine Exists.intro _ (And.intro (setAt_last _ _ _) ?_) | refine Exists.intro _ (Exists.intro _ (Exists.intro _ (Exists.intro _ (And.intro rfl ?_)))) | refine Exists.intro _ (And.intro rfl ?_) | refine Exists.intro _ (Exists.intro _ (And.intro rfl ?_)) | refine Exists.intro _ (Exists.intro _ (Exists.intro _ (And.intro rfl ?_))) | refine And.intro (cdivW_small (by first | decide | omega) (by first | decide | omega)) ?_ | refine And.intro (.inl (.inl ⟨by omega, by omega⟩)) ?_ | refine And.intro (.inl (.inr ⟨by omega, by omega⟩)) ?_ | refine And.intro ⟨by decide, by decide, by decide⟩ ?_ | refine And.intro (by decide) ?_ | refine And.intro (by omega) ?_ | refine And.intro (by simp only [List.length_cons, List.length_nil]; decide) ?_ | refine And.intro (by simp only [List.length_cons, List.length_nil, List.length_map, List.length_append]; omega) ?_)); (conv => whnf)
  refine forQ.by r PyData.int (fun pre ρ => ∃ s2, ρ = [.pub (encI r), .lst ((recs pre).map PyData.int), s2]) ⟨_, rfl⟩ ?_ ?_
  · rintro pre x ρ2 ⟨post, e⟩ ⟨s2, rfl⟩
    rw [recs_snoc]
    have hpre := recs_len pre
    rw [e, List.length_append] at hl
    rcases snoc_cases (recs pre) with hz | ⟨f, l, hz⟩
    · rw [hz]
      (repeat ((conv => whnf); first | refine cnd.yes ?_ | refine cnd.no ?_ | refine cnd.decY (by first | rfl | omega) ?_ | refine cnd.decN (by omega) ?_ | refine cnd.notY (by omega) ?_ | refine cnd.notN (by first | rfl | omega) ?_ | refine cnd.decY (by simp only [List.length_cons, List.length_nil, List.length_map, List.length_append]; omega) ?_ | refine cnd.decN (by simp only [List.length_cons, List.length_nil, List.length_map, List.length_append]; omega) ?_ | refine Exists.intro _ (And.intro atI_zero ?_) | refine Exists.intro _ (And.intro atI_one ?_) | refine Exists.intro _ (And.intro (atI_last _ _) ?_) | refine Exists.intro _ (And.intro (setAt_last _ _ _) ?_) | refine Exists.intro _ (Exists.intro _ (Exists.intro _ (Exists.intro _ (And.intro rfl ?_)))) | refine Exists.intro _ (And.intro rfl ?_) | refine Exists.intro _ (Exists.intro _ (And.intro rfl ?_)) | refine Exists.intro _ (Exists.intro _ (Exists.intro _ (And.intro rfl ?_))) | refine And.intro (cdivW_small (by first | decide | omega) (by first | decide | omega)) ?_ | refine And.intro (.inl (.inl ⟨by omega, by omega⟩)) ?_ | refine And.intro (.inl (.inr ⟨by omega, by omega⟩)) ?_ | refine And.intro ⟨by decide, by decide, by decide⟩ ?_ | refine And.intro (by decide) ?_ | refine And.intro (by omega) ?_ | refine And.intro (by simp only [List.length_cons, List.length_nil]; decide) ?_ | refine And.intro (by simp only [List.length_cons, List.length_nil, List.length_map, List.length_append]; omega) ?_)); (conv => whnf)
      exact ⟨_, rfl⟩
    · rw [hz, recStp_snoc, getLast_map]
      rw [hz] at hpre
      rw [List.length_append, List.length_singleton] at hpre
      conv => whnf
      refine .decN (by simp only [List.length_append, List.length_map, List.length_singleton]; omega) ?_
      conv => whnf
      refine ⟨_, atI_last _ _, ?_⟩
      conv => whnf
      refine .dec (fun hx => ?_) fun hx => ?_
      · rw [if_pos hx]
        conv => whnf
        refine ⟨by simp only [List.length_append, List.length_map, List.length_singleton]; omega, ?_⟩
        conv => whnf
        exact ⟨.pub (.int x), by rw [getLast_map, getLast_map]; rfl⟩
      · rw [if_neg hx]
        conv => whnf
        exact ⟨.pub (.int x), by rw [getLast_map]; rfl⟩
  · rintro ρ2 ⟨s2, rfl⟩
    (repeat ((conv => whnf); first | refine cnd.yes ?_ | refine cnd.no ?_ | refine cnd.decY (by first | rfl | omega) ?_ | refine cnd.decN (by omega) ?_ | refine cnd.notY (by omega) ?_ | refine cnd.notN (by first | rfl | omega) ?_ | refine cnd.decY (by simp only [List.length_cons, List.length_nil, List.length_map, List.length_append]; omega) ?_ | refine cnd.decN (by simp only [List.length_cons, List.length_nil, List.length_map, List.length_append]; omega) ?_ | refine Exists.intro _ (And.intro atI_zero ?_) | refine Exists.intro _ (And.intro atI_one ?_) | refine Exists.intro _ (And.intro (atI_last _ _) ?_) | refine Exists.intro _ (And.intro (setAt_last _ _ _) ?_) | refine Exists.intro _ (Exists.intro _ (Exists.intro _ (Exists.intro _ (And.intro rfl ?_)))) | refine Exists.intro _ (And.intro rfl ?_) | refine Exists.intro _ (Exists.intro _ (And.intro rfl ?_)) | refine Exists.intro _ (Exists.intro _ (Exists.intro _ (And.intro rfl ?_))) | refine And.intro (cdivW_small (by first | decide | omega) (by first | decide | omega)) ?_ | refine And.intro (.inl (.inl ⟨by omega, by omega⟩)) ?_ | refine And.intro (.inl (.inr ⟨by omega, by omega⟩)) ?_ | refine And.intro ⟨by decide, by decide, by decide⟩ ?_ | refine And.intro (by decide) ?_ | refine And.intro (by omega) ?_ | refine And.intro (by simp only [List.length_cons, List.length_nil]; decide) ?_ | refine And.intro (by simp only [List.length_cons, List.length_nil, List.length_map, List.length_append]; omega) ?_)); (conv => whnf)
    exact q
def Φ_is_lone : PhiP := fun ds Q => ∃ (r : List Int) (L : Int), ds = [encI r, .int L] ∧ r.length ≤ 1000 ∧ Q (.bool (lone L r))
theorem m_is_lone : ∀ {ds : List PD} {Q Q' : PD → Prop}, (∀ d, Q d → Q' d) → Φ_is_lone ds Q → Φ_is_lone ds Q' := fun h ⟨i, l, e, b, q⟩ => ⟨i, l, e, b, h _ q⟩
theorem l_is_lone : ∀ ds Q, Φ_is_lone ds Q → ds.length = 2 := fun ds Q ⟨i, l, e, _⟩ => by rw [e]; rfl
theorem at_is_lone (T : Tp K mg) : FnAt P w K mg base "is_lone" 1 (spP K Φ_is_lone) := by
  obtain ⟨f, fd, F, hm, hb⟩ := T.d_is_lone
  refine ⟨f, fd, ["row", "least"], fn_p F sc_is_lone l_is_lone fun cdv A outer s H E hr => ⟨_, (dss_one (ds_ret (de_callB (any_ok rfl) anyW_m T.any b_any (de_lc rfl sc_is_lone.nd (blkOk_by (N := ["row", "least", "limit"]) (sc := defScope s_is_lone) (own := [("limit", 2)]) (by decide +kernel)) (lc_ok (di_exp (de_var 0)) (fun _ _ _ _ _ => (dg_n 2 sc_is_lone.nd)) (fun _ _ _ _ _ => dp_nil) (fun _ _ _ _ _ => (de_cmp (hu65 hr) (de_var 2) (de_bin de_int (de_var 1))))))))), fun ds Q h => ?_⟩, hm, F.kp, hb⟩
  obtain ⟨r, L, rfl, hl, q⟩ := h
  (repeat ((conv => whnf); first | refine cnd.yes ?_ | refine cnd.no ?_ | refine cnd.decY (by first | rfl | omega) ?_ | refine cnd.decN (by omega) ?_ | refine cnd.notY (by omega) ?_ | refine cnd.notN (by first | rfl | omega) ?_ | refine cnd.decY (by simp only [List.length_cons, List.length_nil, List.length_map, List.length_append]; omega) ?_ | refine cnd.decN (by simp only [List.length_cons, List.length_nil, List.length_map, List.length_append]; omega) ?_ | refine Exists.intro _ (And.intro atI_zero ?_) | refine Exists.intro _ (And.intro atI_one ?_) | refine Exists.intro _ (And.intro (atI_last _ _) ?_) | refine Exists.intro _ (And.intro (setAt_last _ _ _) ?_) | refine Exists.intro _ (Exists.intro _ (Exists.intro _ (Exists.intro _ (And.intro rfl ?_)))) | refine Exists.intro _ (And.intro rfl ?_) | refine Exists.intro _ (Exists.intro _ (And.intro rfl ?_)) | refine Exists.intro _ (Exists.intro _ (Exists.intro _ (And.intro rfl ?_))) | refine And.intro (cdivW_small (by first | decide | omega) (by first | decide | omega)) ?_ | refine And.intro (.inl (.inl ⟨by omega, by omega⟩)) ?_ | refine And.intro (.inl (.inr ⟨by omega, by omega⟩)) ?_ | refine And.intro ⟨by decide, by decide, by decide⟩ ?_ | refine And.intro (by decide) ?_ | refine And.intro (by omega) ?_ | refine And.intro (by simp only [List.length_cons, List.length_nil]; decide) ?_ | refine And.intro (by simp only [List.length_cons, List.length_nil, List.length_map, List.length_append]; omega) ?_)); (conv => whnf)
  refine lcQ_all r PyData.int (fun x => .bool (decide (x < 2 * L))) (by omega) (fun x hx KK S hK => ?_) ?_
  · (repeat ((conv => whnf); first | refine cnd.yes ?_ | refine cnd.no ?_ | refine cnd.decY (by first | rfl | omega) ?_ | refine cnd.decN (by omega) ?_ | refine cnd.notY (by omega) ?_ | refine cnd.notN (by first | rfl | omega) ?_ | refine cnd.decY (by simp only [List.length_cons, List.length_nil, List.length_map, List.length_append]; omega) ?_ | refine cnd.decN (by simp only [List.length_cons, List.length_nil, List.length_map, List.length_append]; omega) ?_ | refine Exists.intro _ (And.intro atI_zero ?_) | refine Exists.intro _ (And.intro atI_one ?_) | refine Exists.intro _ (And.intro (atI_last _ _) ?_) | refine Exists.intro _ (And.intro (setAt_last _ _ _) ?_) | refine Exists.intro _ (Exists.intro _ (Exists.intro _ (Exists.intro _ (And.intro rfl ?_)))) | refine Exists.intro _ (And.intro rfl ?_) | refine Exists.intro _ (Exists.intro _ (And.intro rfl ?_)) | refine Exists.intro _ (Exists.intro _ (Exists.intro _ (And.intro rfl ?_))) | refine And.intro (cdivW_small (by first | decide | omega) (by first | decide | omega)) ?_ | refine And.intro (.inl (.inl ⟨by omega, by omega⟩)) ?_ | refine And.intro (.inl (.inr ⟨by omega, by omega⟩)) ?_ | refine And.intro ⟨by decide, by decide, by decide⟩ ?_ | refine And.intro (by decide) ?_ | refine And.intro (by omega) ?_ | refine And.intro (by simp only [List.length_cons, List.length_nil]; decide) ?_ | refine And.intro (by simp only [List.length_cons, List.length_nil, List.length_map, List.length_append]; omega) ?_)); (conv => whnf)
    exact hK
  · (repeat ((conv => whnf); first | refine cnd.yes ?_ | refine cnd.no ?_ | refine cnd.decY (by first | rfl | omega) ?_ | refine cnd.decN (by omega) ?_ | refine cnd.notY (by omega) ?_ | refine cnd.notN (by first | rfl | omega) ?_ | refine cnd.decY (by simp only [List.length_cons, List.length_nil, List.length_map, List.length_append]; omega) ?_ | refine cnd.decN (by simp only [List.length_cons, List.length_nil, List.length_map, List.length_append]; omega) ?_ | refine Exists.intro _ (And.intro atI_zero ?_) | refine Exists.intro _ (And.intro atI_one ?_) | refine Exists.intro _ (And.intro (atI_last _ _) ?_) | refine Exists.intro _ (And.intro (setAt_last _ _ _) ?_) | refine Exists.intro _ (Exists.intro _ (Exists.intro _ (Exists.intro _ (And.intro rfl ?_)))) | refine Exists.intro _ (And.intro rfl ?_) | refine Exists.intro _ (Exists.intro _ (And.intro rfl ?_)) | refine Exists.intro _ (Exists.intro _ (Exists.intro _ (And.intro rfl ?_))) | refine And.intro (cdivW_small (by first | decide | omega) (by first | decide | omega)) ?_ | refine And.intro (.inl (.inl ⟨by omega, by omega⟩)) ?_ | refine And.intro (.inl (.inr ⟨by omega, by omega⟩)) ?_ | refine And.intro ⟨by decide, by decide, by decide⟩ ?_ | refine And.intro (by decide) ?_ | refine And.intro (by omega) ?_ | refine And.intro (by simp only [List.length_cons, List.length_nil]; decide) ?_ | refine And.intro (by simp only [List.length_cons, List.length_nil, List.length_map, List.length_append]; omega) ?_)); (conv => whnf)
    refine ⟨r.map fun x => decide (x < 2 * L), bools_is _ _ ▸ rfl, ?_⟩
    (repeat ((conv => whnf); first | refine cnd.yes ?_ | refine cnd.no ?_ | refine cnd.decY (by first | rfl | omega) ?_ | refine cnd.decN (by omega) ?_ | refine cnd.notY (by omega) ?_ | refine cnd.notN (by first | rfl | omega) ?_ | refine cnd.decY (by simp only [List.length_cons, List.length_nil, List.length_map, List.length_append]; omega) ?_ | refine cnd.decN (by simp only [List.length_cons, List.length_nil, List.length_map, List.length_append]; omega) ?_ | refine Exists.intro _ (And.intro atI_zero ?_) | refine Exists.intro _ (And.intro atI_one ?_) | refine Exists.intro _ (And.intro (atI_last _ _) ?_) | refine Exists.intro _ (And.intro (setAt_last _ _ _) ?_) | refine Exists.intro _ (Exists.intro _ (Exists.intro _ (Exists.intro _ (And.intro rfl ?_)))) | refine Exists.intro _ (And.intro rfl ?_) | refine Exists.intro _ (Exists.intro _ (And.intro rfl ?_)) | refine Exists.intro _ (Exists.intro _ (Exists.intro _ (And.intro rfl ?_))) | refine And.intro (cdivW_small (by first | decide | omega) (by first | decide | omega)) ?_ | refine And.intro (.inl (.inl ⟨by omega, by omega⟩)) ?_ | refine And.intro (.inl (.inr ⟨by omega, by omega⟩)) ?_ | refine And.intro ⟨by decide, by decide, by decide⟩ ?_ | refine And.intro (by decide) ?_ | refine And.intro (by omega) ?_ | refine And.intro (by simp only [List.length_cons, List.length_nil]; decide) ?_ | refine And.intro (by simp only [List.length_cons, List.length_nil, List.length_map, List.length_append]; omega) ?_)); (conv => whnf)
    rw [List.any_map]
    exact q
def Φ_joined_blocks : PhiP := fun ds Q => ∃ (bs : List Bl) (L : Int), ds = [.list (bs.map encB), .int L] ∧ bs.length ≤ 1000 ∧ Q (encF (some (joinL L bs)))
theorem m_joined_blocks : ∀ {ds : List PD} {Q Q' : PD → Prop}, (∀ d, Q d → Q' d) → Φ_joined_blocks ds Q → Φ_joined_blocks ds Q' := fun h ⟨i, l, e, b, q⟩ => ⟨i, l, e, b, h _ q⟩
theorem l_joined_blocks : ∀ ds Q, Φ_joined_blocks ds Q → ds.length = 2 := fun ds Q ⟨i, l, e, _⟩ => by rw [e]; rfl
theorem at_joined_blocks (T : Tp K mg) : FnAt P w K mg base "joined_blocks" 1 (spP K Φ_joined_blocks) := by
  obtain ⟨f, fd, F, hm, hb⟩ := T.d_joined_blocks
  refine ⟨f, fd, ["blocks", "least"], fn_p F sc_joined_blocks l_joined_blocks fun cdv A outer s H E hr => ⟨_, (dss_cons (ds_set true 2 sc_joined_blocks.nd (de_lst da_nil))
    (dss_cons (ds_for PassesOwn.never rfl (di_exp (de_var 0)) (dg_t rfl (dgs_cons (dg_n 3 sc_joined_blocks.nd) (dgs_cons (dg_n 4 sc_joined_blocks.nd) dgs_nil)) (hl := gs2)) (dss_one (ds_if (dt_w (dw_and (dt_cmp (hu65 hr) (de_callB len_ok lenW_m T.len b_len (de_var 2)) de_int) (dw_and1 (dt_cmp (hu65 hr) (de_bin (de_var 3) (de_ix (de_ix (de_var 2) (de_neg de_int)) de_int)) (de_var 1))))) (dss_one (ds_setIx 2 (de_tup (da_cons (de_ix (de_ix (de_var 2) (de_neg de_int)) de_int) (da_cons (de_var 4) da_nil))) (de_neg de_int))) (dss_one (ds_app 2 (de_tup (da_cons (de_var 3) (da_cons (de_var 4) da_nil))))))))
    (dss_one (ds_ret (de_callTy tuple_ok tupleW_m T.tuple b_tuple (de_var 2)))))), fun ds Q h => ?_⟩, hm, F.kp, hb⟩
  obtain ⟨bs, L, rfl, hl, q⟩ := h
  (repeat ((conv => whnf); first | refine cnd.yes ?_ | refine cnd.no ?_ | refine cnd.decY (by first | rfl | omega) ?_ | refine cnd.decN (by omega) ?_ | refine cnd.notY (by omega) ?_ | refine cnd.notN (by first | rfl | omega) ?_ | refine cnd.decY (by simp only [List.length_cons, List.length_nil, List.length_map, List.length_append]; omega) ?_ | refine cnd.decN (by simp only [List.length_cons, List.length_nil, List.length_map, List.length_append]; omega) ?_ | refine Exists.intro _ (And.intro atI_zero ?_) | refine Exists.intro _ (And.intro atI_one ?_) | refine Exists.intro _ (And.intro (atI_last _ _) ?_) | refine Exists.intro _ (And.intro (setAt_last _ _ _) ?_) | refine Exists.intro _ (Exists.intro _ (Exists.intro _ (Exists.intro _ (And.intro rfl ?_)))) | refine Exists.intro _ (And.intro rfl ?_) | refine Exists.intro _ (Exists.intro _ (And.intro rfl ?_)) | refine Exists.intro _ (Exists.intro _ (Exists.intro _ (And.intro rfl ?_))) | refine And.intro (cdivW_small (by first | decide | omega) (by first | decide | omega)) ?_ | refine And.intro (.inl (.inl ⟨by omega, by omega⟩)) ?_ | refine And.intro (.inl (.inr ⟨by omega, by omega⟩)) ?_ | refine And.intro ⟨by decide, by decide, by decide⟩ ?_ | refine And.intro (by decide) ?_ | refine And.intro (by omega) ?_ | refine And.intro (by simp only [List.length_cons, List.length_nil]; decide) ?_ | refine And.intro (by simp only [List.length_cons, List.length_nil, List.length_map, List.length_append]; omega) ?_)); (conv => whnf)
  refine forQ.by bs encB (fun pre ρ => ∃ s3 s4, ρ = [.pub (.list (bs.map encB)), .pub (.int L), .lst ((joinL L pre).map encB), s3, s4]) ⟨_, _, rfl⟩ ?_ ?_
  · rintro pre ⟨x, y⟩ ρ2 ⟨post, e⟩ ⟨s3, s4, rfl⟩
    have hpre := join_len (L := L) pre
    rw [e, List.length_append] at hl
    rw [join_snoc]
    rcases snoc_cases (joinL L pre) with hz | ⟨f, l, hz⟩
    · rw [hz, stp_nil]
      (repeat ((conv => whnf); first | refine cnd.yes ?_ | refine cnd.no ?_ | refine cnd.decY (by first | rfl | omega) ?_ | refine cnd.decN (by omega) ?_ | refine cnd.notY (by omega) ?_ | refine cnd.notN (by first | rfl | omega) ?_ | refine cnd.decY (by simp only [List.length_cons, List.length_nil, List.length_map, List.length_append]; omega) ?_ | refine cnd.decN (by simp only [List.length_cons, List.length_nil, List.length_map, List.length_append]; omega) ?_ | refine Exists.intro _ (And.intro atI_zero ?_) | refine Exists.intro _ (And.intro atI_one ?_) | refine Exists.intro _ (And.intro (atI_last _ _) ?_) | refine Exists.intro _ (And.intro (setAt_last _ _ _) ?_) | refine Exists.intro _ (Exists.intro _ (Exists.intro _ (Exists.intro _ (And.intro rfl ?_)))) | refine Exists.intro _ (And.intro rfl ?_) | refine Exists.intro _ (Exists.intro _ (And.intro rfl ?_)) | refine Exists.intro _ (Exists.intro _ (Exists.intro _ (And.intro rfl ?_))) | refine And.intro (cdivW_small (by first | decide | omega) (by first | decide | omega)) ?_ | refine And.intro (.inl (.inl ⟨by omega, by omega⟩)) ?_ | refine And.intro (.inl (.inr ⟨by omega, by omega⟩)) ?_ | refine And.intro ⟨by decide, by decide, by decide⟩ ?_ | refine And.intro (by decide) ?_ | refine And.intro (by omega) ?_ | refine And.intro (by simp only [List.length_cons, List.length_nil]; decide) ?_ | refine And.intro (by simp only [List.length_cons, List.length_nil, List.length_map, List.length_append]; omega) ?_)); (conv => whnf)
      exact ⟨_, _, rfl⟩
    · rw [hz, List.length_append, List.length_singleton] at hpre
      rw [hz, stp_snoc, getLast_map]
      (repeat ((conv => whnf); first | refine cnd.yes ?_ | refine cnd.no ?_ | refine cnd.decY (by first | rfl | omega) ?_ | refine cnd.decN (by omega) ?_ | refine cnd.notY (by omega) ?_ | refine cnd.notN (by first | rfl | omega) ?_ | refine cnd.decY (by simp only [List.length_cons, List.length_nil, List.length_map, List.length_append]; omega) ?_ | refine cnd.decN (by simp only [List.length_cons, List.length_nil, List.length_map, List.length_append]; omega) ?_ | refine Exists.intro _ (And.intro atI_zero ?_) | refine Exists.intro _ (And.intro atI_one ?_) | refine Exists.intro _ (And.intro (atI_last _ _) ?_) | refine Exists.intro _ (And.intro (setAt_last _ _ _) ?_) | refine Exists.intro _ (Exists.intro _ (Exists.intro _ (Exists.intro _ (And.intro rfl ?_)))) | refine Exists.intro _ (And.intro rfl ?_) | refine Exists.intro _ (Exists.intro _ (And.intro rfl ?_)) | refine Exists.intro _ (Exists.intro _ (Exists.intro _ (And.intro rfl ?_))) | refine And.intro (cdivW_small (by first | decide | omega) (by first | decide | omega)) ?_ | refine And.intro (.inl (.inl ⟨by omega, by omega⟩)) ?_ | refine And.intro (.inl (.inr ⟨by omega, by omega⟩)) ?_ | refine And.intro ⟨by decide, by decide, by decide⟩ ?_ | refine And.intro (by decide) ?_ | refine And.intro (by omega) ?_ | refine And.intro (by simp only [List.length_cons, List.length_nil]; decide) ?_ | refine And.intro (by simp only [List.length_cons, List.length_nil, List.length_map, List.length_append]; omega) ?_)); (conv => whnf)
      refine .dec (fun hx => ?_) fun hx => ?_
      · rw [if_pos hx]
        (repeat ((conv => whnf); first | refine cnd.yes ?_ | refine cnd.no ?_ | refine cnd.decY (by first | rfl | omega) ?_ | refine cnd.decN (by omega) ?_ | refine cnd.notY (by omega) ?_ | refine cnd.notN (by first | rfl | omega) ?_ | refine cnd.decY (by simp only [List.length_cons, List.length_nil, List.length_map, List.length_append]; omega) ?_ | refine cnd.decN (by simp only [List.length_cons, List.length_nil, List.length_map, List.length_append]; omega) ?_ | refine Exists.intro _ (And.intro atI_zero ?_) | refine Exists.intro _ (And.intro atI_one ?_) | refine Exists.intro _ (And.intro (atI_last _ _) ?_) | refine Exists.intro _ (And.intro (setAt_last _ _ _) ?_) | refine Exists.intro _ (Exists.intro _ (Exists.intro _ (Exists.intro _ (And.intro rfl ?_)))) | refine Exists.intro _ (And.intro rfl ?_) | refine Exists.intro _ (Exists.intro _ (And.intro rfl ?_)) | refine Exists.intro _ (Exists.intro _ (Exists.intro _ (And.intro rfl ?_))) | refine And.intro (cdivW_small (by first | decide | omega) (by first | decide | omega)) ?_ | refine And.intro (.inl (.inl ⟨by omega, by omega⟩)) ?_ | refine And.intro (.inl (.inr ⟨by omega, by omega⟩)) ?_ | refine And.intro ⟨by decide, by decide, by decide⟩ ?_ | refine And.intro (by decide) ?_ | refine And.intro (by omega) ?_ | refine And.intro (by simp only [List.length_cons, List.length_nil]; decide) ?_ | refine And.intro (by simp only [List.length_cons, List.length_nil, List.length_map, List.length_append]; omega) ?_)); (conv => whnf)
        exact ⟨.pub (.int x), .pub (.int y), by rw [getLast_map]; rfl⟩
      · rw [if_neg hx]
        (repeat ((conv => whnf); first | refine cnd.yes ?_ | refine cnd.no ?_ | refine cnd.decY (by first | rfl | omega) ?_ | refine cnd.decN (by omega) ?_ | refine cnd.notY (by omega) ?_ | refine cnd.notN (by first | rfl | omega) ?_ | refine cnd.decY (by simp only [List.length_cons, List.length_nil, List.length_map, List.length_append]; omega) ?_ | refine cnd.decN (by simp only [List.length_cons, List.length_nil, List.length_map, List.length_append]; omega) ?_ | refine Exists.intro _ (And.intro atI_zero ?_) | refine Exists.intro _ (And.intro atI_one ?_) | refine Exists.intro _ (And.intro (atI_last _ _) ?_) | refine Exists.intro _ (And.intro (setAt_last _ _ _) ?_) | refine Exists.intro _ (Exists.intro _ (Exists.intro _ (Exists.intro _ (And.intro rfl ?_)))) | refine Exists.intro _ (And.intro rfl ?_) | refine Exists.intro _ (Exists.intro _ (And.intro rfl ?_)) | refine Exists.intro _ (Exists.intro _ (Exists.intro _ (And.intro rfl ?_))) | refine And.intro (cdivW_small (by first | decide | omega) (by first | decide | omega)) ?_ | refine And.intro (.inl (.inl ⟨by omega, by omega⟩)) ?_ | refine And.intro (.inl (.inr ⟨by omega, by omega⟩)) ?_ | refine And.intro ⟨by decide, by decide, by decide⟩ ?_ | refine And.intro (by decide) ?_ | refine And.intro (by omega) ?_ | refine And.intro (by simp only [List.length_cons, List.length_nil]; decide) ?_ | refine And.intro (by simp only [List.length_cons, List.length_nil, List.length_map, List.length_append]; omega) ?_)); (conv => whnf)
        exact ⟨.pub (.int x), .pub (.int y), by rw [getLast_map, getLast_map]; rfl⟩
  · rintro ρ2 ⟨s3, s4, rfl⟩
    (repeat ((conv => whnf); first | refine cnd.yes ?_ | refine cnd.no ?_ | refine cnd.decY (by first | rfl | omega) ?_ | refine cnd.decN (by omega) ?_ | refine cnd.notY (by omega) ?_ | refine cnd.notN (by first | rfl | omega) ?_ | refine cnd.decY (by simp only [List.length_cons, List.length_nil, List.length_map, List.length_append]; omega) ?_ | refine cnd.decN (by simp only [List.length_cons, List.length_nil, List.length_map, List.length_append]; omega) ?_ | refine Exists.intro _ (And.intro atI_zero ?_) | refine Exists.intro _ (And.intro atI_one ?_) | refine Exists.intro _ (And.intro (atI_last _ _) ?_) | refine Exists.intro _ (And.intro (setAt_last _ _ _) ?_) | refine Exists.intro _ (Exists.intro _ (Exists.intro _ (Exists.intro _ (And.intro rfl ?_)))) | refine Exists.intro _ (And.intro rfl ?_) | refine Exists.intro _ (Exists.intro _ (And.intro rfl ?_)) | refine Exists.intro _ (Exists.intro _ (Exists.intro _ (And.intro rfl ?_))) | refine And.intro (cdivW_small (by first | decide | omega) (by first | decide | omega)) ?_ | refine And.intro (.inl (.inl ⟨by omega, by omega⟩)) ?_ | refine And.intro (.inl (.inr ⟨by omega, by omega⟩)) ?_ | refine And.intro ⟨by decide, by decide, by decide⟩ ?_ | refine And.intro (by decide) ?_ | refine And.intro (by omega) ?_ | refine And.intro (by simp only [List.length_cons, List.length_nil]; decide) ?_ | refine And.intro (by simp only [List.length_cons, List.length_nil, List.length_map, List.length_append]; omega) ?_)); (conv => whnf)
    exact q
def Φ_filling : PhiP := fun ds Q => ∃ (r : List Int) (L : Int), ds = [encI r, .int L] ∧ r.length ≤ 1000 ∧ Q (encF (fillF L r))
theorem m_filling : ∀ {ds : List PD} {Q Q' : PD → Prop}, (∀ d, Q d → Q' d) → Φ_filling ds Q → Φ_filling ds Q' := fun h ⟨i, l, e, b, q⟩ => ⟨i, l, e, b, h _ q⟩
theorem l_filling : ∀ ds Q, Φ_filling ds Q → ds.length = 2 := fun ds Q ⟨i, l, e, _⟩ => by rw [e]; rfl
theorem at_filling (T : Tp K mg) : FnAt P w K mg base "filling" 2 (spP K Φ_filling) := by
  obtain ⟨f, fd, F, hm, hb⟩ := T.d_filling
  refine ⟨f, fd, ["row", "least"], fn_p F sc_filling l_filling fun cdv A outer s H E hr => ⟨_, (dss_cons (ds_if (dt_val (de_call (at_is_lone T) hr m_is_lone (da_cons (de_var 0) (da_cons (de_var 1) da_nil)))) (dss_one (ds_ret de_non)) dss_nil)
    (dss_one (ds_ret (de_call (at_joined_blocks T) hr m_joined_blocks (da_cons (de_lc rfl sc_filling.nd (blkOk_by (N := ["row", "least", "limit"]) (sc := defScope s_filling) (own := [("limit", 2)]) (by decide +kernel)) (lc_ok (di_exp (de_callB sort2_ok sort2W_m T.sorted b_sorted (de_call (at_records T) hr m_records (da_cons (de_var 0) da_nil)))) (fun _ _ _ _ _ => (dg_n 2 sc_filling.nd)) (fun _ _ _ _ _ => dp_nil) (fun _ _ _ _ _ => (de_tup (da_cons (de_var 2) (da_cons (de_var 2) da_nil)))))) (da_cons (de_var 1) da_nil)))))), fun ds Q h => ?_⟩, hm, F.kp, hb⟩
  obtain ⟨r, L, rfl, hl, q⟩ := h
  (repeat ((conv => whnf); first | refine cnd.yes ?_ | refine cnd.no ?_ | refine cnd.decY (by first | rfl | omega) ?_ | refine cnd.decN (by omega) ?_ | refine cnd.notY (by omega) ?_ | refine cnd.notN (by first | rfl | omega) ?_ | refine cnd.decY (by simp only [List.length_cons, List.length_nil, List.length_map, List.length_append]; omega) ?_ | refine cnd.decN (by simp only [List.length_cons, List.length_nil, List.length_map, List.length_append]; omega) ?_ | refine Exists.intro _ (And.intro atI_zero ?_) | refine Exists.intro _ (And.intro atI_one ?_) | refine Exists.intro _ (And.intro (atI_last _ _) ?_) | refine Exists.intro _ (And.intro (setAt_last _ _ _) ?_) | refine Exists.intro _ (Exists.intro _ (Exists.intro _ (Exists.intro _ (And.intro rfl ?_)))) | refine Exists.intro _ (And.intro rfl ?_) | refine Exists.intro _ (Exists.intro _ (And.intro rfl ?_)) | refine Exists.intro _ (Exists.intro _ (Exists.intro _ (And.intro rfl ?_))) | refine And.intro (cdivW_small (by first | decide | omega) (by first | decide | omega)) ?_ | refine And.intro (.inl (.inl ⟨by omega, by omega⟩)) ?_ | refine And.intro (.inl (.inr ⟨by omega, by omega⟩)) ?_ | refine And.intro ⟨by decide, by decide, by decide⟩ ?_ | refine And.intro (by decide) ?_ | refine And.intro (by omega) ?_ | refine And.intro (by simp only [List.length_cons, List.length_nil]; decide) ?_ | refine And.intro (by simp only [List.length_cons, List.length_nil, List.length_map, List.length_append]; omega) ?_)); (conv => whnf)
  unfold fillF at q
  cases hz : lone L r with
  | true =>
    rw [hz] at q
    (repeat ((conv => whnf); first | refine cnd.yes ?_ | refine cnd.no ?_ | refine cnd.decY (by first | rfl | omega) ?_ | refine cnd.decN (by omega) ?_ | refine cnd.notY (by omega) ?_ | refine cnd.notN (by first | rfl | omega) ?_ | refine cnd.decY (by simp only [List.length_cons, List.length_nil, List.length_map, List.length_append]; omega) ?_ | refine cnd.decN (by simp only [List.length_cons, List.length_nil, List.length_map, List.length_append]; omega) ?_ | refine Exists.intro _ (And.intro atI_zero ?_) | refine Exists.intro _ (And.intro atI_one ?_) | refine Exists.intro _ (And.intro (atI_last _ _) ?_) | refine Exists.intro _ (And.intro (setAt_last _ _ _) ?_) | refine Exists.intro _ (Exists.intro _ (Exists.intro _ (Exists.intro _ (And.intro rfl ?_)))) | refine Exists.intro _ (And.intro rfl ?_) | refine Exists.intro _ (Exists.intro _ (And.intro rfl ?_)) | refine Exists.intro _ (Exists.intro _ (Exists.intro _ (And.intro rfl ?_))) | refine And.intro (cdivW_small (by first | decide | omega) (by first | decide | omega)) ?_ | refine And.intro (.inl (.inl ⟨by omega, by omega⟩)) ?_ | refine And.intro (.inl (.inr ⟨by omega, by omega⟩)) ?_ | refine And.intro ⟨by decide, by decide, by decide⟩ ?_ | refine And.intro (by decide) ?_ | refine And.intro (by omega) ?_ | refine And.intro (by simp only [List.length_cons, List.length_nil]; decide) ?_ | refine And.intro (by simp only [List.length_cons, List.length_nil, List.length_map, List.length_append]; omega) ?_)); (conv => whnf)
    exact q
  | false =>
    rw [hz] at q
    (repeat ((conv => whnf); first | refine cnd.yes ?_ | refine cnd.no ?_ | refine cnd.decY (by first | rfl | omega) ?_ | refine cnd.decN (by omega) ?_ | refine cnd.notY (by omega) ?_ | refine cnd.notN (by first | rfl | omega) ?_ | refine cnd.decY (by simp only [List.length_cons, List.length_nil, List.length_map, List.length_append]; omega) ?_ | refine cnd.decN (by simp only [List.length_cons, List.length_nil, List.length_map, List.length_append]; omega) ?_ | refine Exists.intro _ (And.intro atI_zero ?_) | refine Exists.intro _ (And.intro atI_one ?_) | refine Exists.intro _ (And.intro (atI_last _ _) ?_) | refine Exists.intro _ (And.intro (setAt_last _ _ _) ?_) | refine Exists.intro _ (Exists.intro _ (Exists.intro _ (Exists.intro _ (And.intro rfl ?_)))) | refine Exists.intro _ (And.intro rfl ?_) | refine Exists.intro _ (Exists.intro _ (And.intro rfl ?_)) | refine Exists.intro _ (Exists.intro _ (Exists.intro _ (And.intro rfl ?_))) | refine And.intro (cdivW_small (by first | decide | omega) (by first | decide | omega)) ?_ | refine And.intro (.inl (.inl ⟨by omega, by omega⟩)) ?_ | refine And.intro (.inl (.inr ⟨by omega, by omega⟩)) ?_ | refine And.intro ⟨by decide, by decide, by decide⟩ ?_ | refine And.intro (by decide) ?_ | refine And.intro (by omega) ?_ | refine And.intro (by simp only [List.length_cons, List.length_nil]; decide) ?_ | refine And.intro (by simp only [List.length_cons, List.length_nil, List.length_map, List.length_append]; omega) ?_)); (conv => whnf)
    have hs : sorts (recs r) = asc r := (sorts_is (List.reverse_perm _) ((asc_up r).imp fun h => Int.le_of_lt h)).symm
    have hr := recs_len r
    have ha : (asc r).length ≤ 1000 := by unfold asc; rw [List.length_reverse]; omega
    rw [hs]
    refine lcQ_all (asc r) PyData.int (fun x => encB (x, x)) (by omega) (fun x hx KK S hK => ?_) ?_
    · (repeat ((conv => whnf); first | refine cnd.yes ?_ | refine cnd.no ?_ | refine cnd.decY (by first | rfl | omega) ?_ | refine cnd.decN (by omega) ?_ | refine cnd.notY (by omega) ?_ | refine cnd.notN (by first | rfl | omega) ?_ | refine cnd.decY (by simp only [List.length_cons, List.length_nil, List.length_map, List.length_append]; omega) ?_ | refine cnd.decN (by simp only [List.length_cons, List.length_nil, List.length_map, List.length_append]; omega) ?_ | refine Exists.intro _ (And.intro atI_zero ?_) | refine Exists.intro _ (And.intro atI_one ?_) | refine Exists.intro _ (And.intro (atI_last _ _) ?_) | refine Exists.intro _ (And.intro (setAt_last _ _ _) ?_) | refine Exists.intro _ (Exists.intro _ (Exists.intro _ (Exists.intro _ (And.intro rfl ?_)))) | refine Exists.intro _ (And.intro rfl ?_) | refine Exists.intro _ (Exists.intro _ (And.intro rfl ?_)) | refine Exists.intro _ (Exists.intro _ (Exists.intro _ (And.intro rfl ?_))) | refine And.intro (cdivW_small (by first | decide | omega) (by first | decide | omega)) ?_ | refine And.intro (.inl (.inl ⟨by omega, by omega⟩)) ?_ | refine And.intro (.inl (.inr ⟨by omega, by omega⟩)) ?_ | refine And.intro ⟨by decide, by decide, by decide⟩ ?_ | refine And.intro (by decide) ?_ | refine And.intro (by omega) ?_ | refine And.intro (by simp only [List.length_cons, List.length_nil]; decide) ?_ | refine And.intro (by simp only [List.length_cons, List.length_nil, List.length_map, List.length_append]; omega) ?_)); (conv => whnf)
      exact hK
    · (repeat ((conv => whnf); first | refine cnd.yes ?_ | refine cnd.no ?_ | refine cnd.decY (by first | rfl | omega) ?_ | refine cnd.decN (by omega) ?_ | refine cnd.notY (by omega) ?_ | refine cnd.notN (by first | rfl | omega) ?_ | refine cnd.decY (by simp only [List.length_cons, List.length_nil, List.length_map, List.length_append]; omega) ?_ | refine cnd.decN (by simp only [List.length_cons, List.length_nil, List.length_map, List.length_append]; omega) ?_ | refine Exists.intro _ (And.intro atI_zero ?_) | refine Exists.intro _ (And.intro atI_one ?_) | refine Exists.intro _ (And.intro (atI_last _ _) ?_) | refine Exists.intro _ (And.intro (setAt_last _ _ _) ?_) | refine Exists.intro _ (Exists.intro _ (Exists.intro _ (Exists.intro _ (And.intro rfl ?_)))) | refine Exists.intro _ (And.intro rfl ?_) | refine Exists.intro _ (Exists.intro _ (And.intro rfl ?_)) | refine Exists.intro _ (Exists.intro _ (Exists.intro _ (And.intro rfl ?_))) | refine And.intro (cdivW_small (by first | decide | omega) (by first | decide | omega)) ?_ | refine And.intro (.inl (.inl ⟨by omega, by omega⟩)) ?_ | refine And.intro (.inl (.inr ⟨by omega, by omega⟩)) ?_ | refine And.intro ⟨by decide, by decide, by decide⟩ ?_ | refine And.intro (by decide) ?_ | refine And.intro (by omega) ?_ | refine And.intro (by simp only [List.length_cons, List.length_nil]; decide) ?_ | refine And.intro (by simp only [List.length_cons, List.length_nil, List.length_map, List.length_append]; omega) ?_)); (conv => whnf)
      refine ⟨pts (asc r), L, ?_, ?_, ?_⟩
      · unfold pts; rw [List.map_map]; rfl
      · unfold pts; rw [List.length_map]; exact ha
      · (repeat ((conv => whnf); first | refine cnd.yes ?_ | refine cnd.no ?_ | refine cnd.decY (by first | rfl | omega) ?_ | refine cnd.decN (by omega) ?_ | refine cnd.notY (by omega) ?_ | refine cnd.notN (by first | rfl | omega) ?_ | refine cnd.decY (by simp only [List.length_cons, List.length_nil, List.length_map, List.length_append]; omega) ?_ | refine cnd.decN (by simp only [List.length_cons, List.length_nil, List.length_map, List.length_append]; omega) ?_ | refine Exists.intro _ (And.intro atI_zero ?_) | refine Exists.intro _ (And.intro atI_one ?_) | refine Exists.intro _ (And.intro (atI_last _ _) ?_) | refine Exists.intro _ (And.intro (setAt_last _ _ _) ?_) | refine Exists.intro _ (Exists.intro _ (Exists.intro _ (Exists.intro _ (And.intro rfl ?_)))) | refine Exists.intro _ (And.intro rfl ?_) | refine Exists.intro _ (Exists.intro _ (And.intro rfl ?_)) | refine Exists.intro _ (Exists.intro _ (Exists.intro _ (And.intro rfl ?_))) | refine And.intro (cdivW_small (by first | decide | omega) (by first | decide | omega)) ?_ | refine And.intro (.inl (.inl ⟨by omega, by omega⟩)) ?_ | refine And.intro (.inl (.inr ⟨by omega, by omega⟩)) ?_ | refine And.intro ⟨by decide, by decide, by decide⟩ ?_ | refine And.intro (by decide) ?_ | refine And.intro (by omega) ?_ | refine And.intro (by simp only [List.length_cons, List.length_nil]; decide) ?_ | refine And.intro (by simp only [List.length_cons, List.length_nil, List.length_map, List.length_append]; omega) ?_)); (conv => whnf)
        exact q
def okB (b : Bl) : Bool := decide (1 ≤ b.1) && decide (1 ≤ b.2) && decide (b.1 ≤ b.2)
def Φ_is_block : PhiP := fun ds Q => ∃ b : Bl, ds = [encB b] ∧ Q (.bool (okB b))
theorem m_is_block : ∀ {ds : List PD} {Q Q' : PD → Prop}, (∀ d, Q d → Q' d) → Φ_is_block ds Q → Φ_is_block ds Q' := fun h ⟨b, e, q⟩ => ⟨b, e, h _ q⟩
theorem l_is_block : ∀ ds Q, Φ_is_block ds Q → ds.length = 1 := fun ds Q ⟨b, e, _⟩ => by rw [e]; rfl
theorem at_is_block (T : Tp K mg) : FnAt P w K mg base "is_block" 2 (spP K Φ_is_block) := by
  obtain ⟨f, fd, F, hm, hb⟩ := T.d_is_block
  refine ⟨f, fd, ["thing"], fn_p F sc_is_block l_is_block fun cdv A outer s H E hr => ⟨_, (dss_one (ds_ret (de_and (de_call (at_is_tuple T) hr m_is_tuple (da_cons (de_var 0) (da_cons de_int da_nil))) (de_and (de_callB (all_ok rfl) allW_m T.all b_all (de_lc rfl sc_is_block.nd (blkOk_by (N := ["thing", "number"]) (sc := defScope s_is_block) (own := [("number", 1)]) (by decide +kernel)) (lc_ok (di_exp (de_var 0)) (fun _ _ _ _ _ => (dg_n 1 sc_is_block.nd)) (fun _ _ _ _ _ => dp_nil) (fun _ _ _ _ _ => (de_call (at_is_number T) hr m_is_number (da_cons (de_var 1) (da_cons de_int da_nil))))))) (de_one (de_cmp (hu65 hr) (de_ix (de_var 0) de_int) (de_ix (de_var 0) de_int))))))), fun ds Q h => ?_⟩, hm, F.kp, hb⟩
  obtain ⟨⟨x, y⟩, rfl, q⟩ := h
  (repeat ((conv => whnf); first | refine cnd.yes ?_ | refine cnd.no ?_ | refine cnd.decY (by first | rfl | omega) ?_ | refine cnd.decN (by omega) ?_ | refine cnd.notY (by omega) ?_ | refine cnd.notN (by first | rfl | omega) ?_ | refine cnd.decY (by simp only [List.length_cons, List.length_nil, List.length_map, List.length_append]; omega) ?_ | refine cnd.decN (by simp only [List.length_cons, List.length_nil, List.length_map, List.length_append]; omega) ?_ | refine Exists.intro _ (And.intro atI_zero ?_) | refine Exists.intro _ (And.intro atI_one ?_) | refine Exists.intro _ (And.intro (atI_last _ _) ?_) | refine Exists.intro _ (And.intro (setAt_last _ _ _) ?_) | refine Exists.intro _ (Exists.intro _ (Exists.intro _ (Exists.intro _ (And.intro rfl ?_)))) | refine Exists.intro _ (And.intro rfl ?_) | refine Exists.intro _ (Exists.intro _ (And.intro rfl ?_)) | refine Exists.intro _ (Exists.intro _ (Exists.intro _ (And.intro rfl ?_))) | refine And.intro (cdivW_small (by first | decide | omega) (by first | decide | omega)) ?_ | refine And.intro (.inl (.inl ⟨by omega, by omega⟩)) ?_ | refine And.intro (.inl (.inr ⟨by omega, by omega⟩)) ?_ | refine And.intro ⟨by decide, by decide, by decide⟩ ?_ | refine And.intro (by decide) ?_ | refine And.intro (by omega) ?_ | refine And.intro (by simp only [List.length_cons, List.length_nil]; decide) ?_ | refine And.intro (by simp only [List.length_cons, List.length_nil, List.length_map, List.length_append]; omega) ?_)); (conv => whnf)
  refine lcQ_all [x, y] PyData.int (fun x => .bool (decide (1 ≤ x))) (by simp) (fun x hx KK S hK => ?_) ?_
  · (repeat ((conv => whnf); first | refine cnd.yes ?_ | refine cnd.no ?_ | refine cnd.decY (by first | rfl | omega) ?_ | refine cnd.decN (by omega) ?_ | refine cnd.notY (by omega) ?_ | refine cnd.notN (by first | rfl | omega) ?_ | refine cnd.decY (by simp only [List.length_cons, List.length_nil, List.length_map, List.length_append]; omega) ?_ | refine cnd.decN (by simp only [List.length_cons, List.length_nil, List.length_map, List.length_append]; omega) ?_ | refine Exists.intro _ (And.intro atI_zero ?_) | refine Exists.intro _ (And.intro atI_one ?_) | refine Exists.intro _ (And.intro (atI_last _ _) ?_) | refine Exists.intro _ (And.intro (setAt_last _ _ _) ?_) | refine Exists.intro _ (Exists.intro _ (Exists.intro _ (Exists.intro _ (And.intro rfl ?_)))) | refine Exists.intro _ (And.intro rfl ?_) | refine Exists.intro _ (Exists.intro _ (And.intro rfl ?_)) | refine Exists.intro _ (Exists.intro _ (Exists.intro _ (And.intro rfl ?_))) | refine And.intro (cdivW_small (by first | decide | omega) (by first | decide | omega)) ?_ | refine And.intro (.inl (.inl ⟨by omega, by omega⟩)) ?_ | refine And.intro (.inl (.inr ⟨by omega, by omega⟩)) ?_ | refine And.intro ⟨by decide, by decide, by decide⟩ ?_ | refine And.intro (by decide) ?_ | refine And.intro (by omega) ?_ | refine And.intro (by simp only [List.length_cons, List.length_nil]; decide) ?_ | refine And.intro (by simp only [List.length_cons, List.length_nil, List.length_map, List.length_append]; omega) ?_)); (conv => whnf)
    exact hK
  · conv => whnf
    refine ⟨[decide (1 ≤ x), decide (1 ≤ y)], rfl, ?_⟩
    conv => whnf
    have e : okB (x, y) = (([decide (1 ≤ x), decide (1 ≤ y)].all fun b => b) && decide (x ≤ y)) := by
      show (decide (1 ≤ x) && decide (1 ≤ y) && decide (x ≤ y)) = _
      simp only [List.all_cons, List.all_nil, Bool.and_true]
    cases hz : ([decide (1 ≤ x), decide (1 ≤ y)].all fun b => b) with
    | true =>
      rw [e, hz, Bool.true_and] at q
      (repeat ((conv => whnf); first | refine cnd.yes ?_ | refine cnd.no ?_ | refine cnd.decY (by first | rfl | omega) ?_ | refine cnd.decN (by omega) ?_ | refine cnd.notY (by omega) ?_ | refine cnd.notN (by first | rfl | omega) ?_ | refine cnd.decY (by simp only [List.length_cons, List.length_nil, List.length_map, List.length_append]; omega) ?_ | refine cnd.decN (by simp only [List.length_cons, List.length_nil, List.length_map, List.length_append]; omega) ?_ | refine Exists.intro _ (And.intro atI_zero ?_) | refine Exists.intro _ (And.intro atI_one ?_) | refine Exists.intro _ (And.intro (atI_last _ _) ?_) | refine Exists.intro _ (And.intro (setAt_last _ _ _) ?_) | refine Exists.intro _ (Exists.intro _ (Exists.intro _ (Exists.intro _ (And.intro rfl ?_)))) | refine Exists.intro _ (And.intro rfl ?_) | refine Exists.intro _ (Exists.intro _ (And.intro rfl ?_)) | refine Exists.intro _ (Exists.intro _ (Exists.intro _ (And.intro rfl ?_))) | refine And.intro (cdivW_small (by first | decide | omega) (by first | decide | omega)) ?_ | refine And.intro (.inl (.inl ⟨by omega, by omega⟩)) ?_ | refine And.intro (.inl (.inr ⟨by omega, by omega⟩)) ?_ | refine And.intro ⟨by decide, by decide, by decide⟩ ?_ | refine And.intro (by decide) ?_ | refine And.intro (by omega) ?_ | refine And.intro (by simp only [List.length_cons, List.length_nil]; decide) ?_ | refine And.intro (by simp only [List.length_cons, List.length_nil, List.length_map, List.length_append]; omega) ?_)); (conv => whnf)
      exact q
    | false =>
      rw [e, hz, Bool.false_and] at q
      (repeat ((conv => whnf); first | refine cnd.yes ?_ | refine cnd.no ?_ | refine cnd.decY (by first | rfl | omega) ?_ | refine cnd.decN (by omega) ?_ | refine cnd.notY (by omega) ?_ | refine cnd.notN (by first | rfl | omega) ?_ | refine cnd.decY (by simp only [List.length_cons, List.length_nil, List.length_map, List.length_append]; omega) ?_ | refine cnd.decN (by simp only [List.length_cons, List.length_nil, List.length_map, List.length_append]; omega) ?_ | refine Exists.intro _ (And.intro atI_zero ?_) | refine Exists.intro _ (And.intro atI_one ?_) | refine Exists.intro _ (And.intro (atI_last _ _) ?_) | refine Exists.intro _ (And.intro (setAt_last _ _ _) ?_) | refine Exists.intro _ (Exists.intro _ (Exists.intro _ (Exists.intro _ (And.intro rfl ?_)))) | refine Exists.intro _ (And.intro rfl ?_) | refine Exists.intro _ (Exists.intro _ (And.intro rfl ?_)) | refine Exists.intro _ (Exists.intro _ (Exists.intro _ (And.intro rfl ?_))) | refine And.intro (cdivW_small (by first | decide | omega) (by first | decide | omega)) ?_ | refine And.intro (.inl (.inl ⟨by omega, by omega⟩)) ?_ | refine And.intro (.inl (.inr ⟨by omega, by omega⟩)) ?_ | refine And.intro ⟨by decide, by decide, by decide⟩ ?_ | refine And.intro (by decide) ?_ | refine And.intro (by omega) ?_ | refine And.intro (by simp only [List.length_cons, List.length_nil]; decide) ?_ | refine And.intro (by simp only [List.length_cons, List.length_nil, List.length_map, List.length_append]; omega) ?_)); (conv => whnf)
      exact q
def fitL (L : Int) (bs : List Bl) : Bool := match bs with
  | [] => true
  | b :: _ => decide (2 * L ≤ b.1)
def validB (L : Int) (bs : List Bl) : Bool := bs.all okB && fitL L bs && (bs.zip bs.tail).all fun p => decide (p.1.2 + L < p.2.1)
def Φ_is_filling : PhiP := fun ds Q => ∃ L : Int, (ds = [.int L, .none] ∧ Q (.bool true)) ∨ (∃ xs, ds = [.int L, .list xs] ∧ Q (.bool false)) ∨ ∃ bs : List Bl, ds = [.int L, .tuple (bs.map encB)] ∧ bs.length ≤ 1000 ∧ Q (.bool (validB L bs))
theorem m_is_filling : ∀ {ds : List PD} {Q Q' : PD → Prop}, (∀ d, Q d → Q' d) → Φ_is_filling ds Q → Φ_is_filling ds Q' := fun h ⟨L, q⟩ => ⟨L, q.imp (fun ⟨e, q⟩ => ⟨e, h _ q⟩) (Or.imp (fun ⟨xs, e, q⟩ => ⟨xs, e, h _ q⟩) fun ⟨bs, e, l, q⟩ => ⟨bs, e, l, h _ q⟩)⟩
theorem l_is_filling : ∀ ds Q, Φ_is_filling ds Q → ds.length = 2 := fun ds Q ⟨L, q⟩ => by
  rcases q with ⟨e, _⟩ | ⟨xs, e, _⟩ | ⟨bs, e, _⟩ <;> (rw [e]; rfl)
theorem at_is_filling (T : Tp K mg) : FnAt P w K mg base "is_filling" 3 (spP K Φ_is_filling) := by
  obtain ⟨f, fd, F, hm, hb⟩ := T.d_is_filling
  refine ⟨f, fd, ["least", "thing"], fn_p F sc_is_filling l_is_filling fun cdv A outer s H E hr => ⟨_, (dss_cons (ds_if (dt_cmp (hu65 hr) (de_var 1) de_non) (dss_one (ds_ret de_bl)) dss_nil)
    (dss_cons (ds_if (dt_w (dw_or (dt_not (dt_val (de_isi kit_tuple T.isinstance T.tuple b_tuple (de_var 1)))) (dw_or1 (dt_not (dt_val (de_callB (all_ok rfl) allW_m T.all b_all (de_lc rfl sc_is_filling.nd (blkOk_by (N := ["least", "thing", "block", "one", "other"]) (sc := defScope s_is_filling) (own := [("block", 2)]) (by decide +kernel)) (lc_ok (di_exp (de_var 1)) (fun _ _ _ _ _ => (dg_n 2 sc_is_filling.nd)) (fun _ _ _ _ _ => dp_nil) (fun _ _ _ _ _ => (de_call (at_is_block T) hr m_is_block (da_cons (de_var 2) da_nil))))))))))) (dss_one (ds_ret de_bl)) dss_nil)
    (dss_cons (ds_if (dt_w (dw_and (dt_cmp (hu65 hr) (de_callB len_ok lenW_m T.len b_len (de_var 1)) de_int) (dw_and1 (dt_cmp (hu65 hr) (de_ix (de_ix (de_var 1) de_int) de_int) (de_bin de_int (de_var 0)))))) (dss_one (ds_ret de_bl)) dss_nil)
    (dss_one (ds_ret (de_callB (all_ok rfl) allW_m T.all b_all (de_lc rfl sc_is_filling.nd (blkOk_by (N := ["least", "thing", "block", "one", "other"]) (sc := defScope s_is_filling) (own := [("one", 3), ("other", 4)]) (by decide +kernel)) (lc_ok (di_zip T.zip (da_cons (de_var 1) (da_cons (de_sl (de_var 1) (do_some de_int) do_none) da_nil))) (fun _ _ _ _ _ => (dg_t rfl (dgs_cons (dg_n 3 sc_is_filling.nd) (dgs_cons (dg_n 4 sc_is_filling.nd) dgs_nil)) (hl := gs2))) (fun _ _ _ _ _ => dp_nil) (fun _ _ _ _ _ => (de_cmp (hu65 hr) (de_bin (de_ix (de_var 3) de_int) (de_var 0)) (de_ix (de_var 4) de_int))))))))))), fun ds Q h => ?_⟩, hm, F.kp, hb⟩
  obtain ⟨L, ⟨rfl, q⟩ | ⟨xs, rfl, q⟩ | ⟨bs, rfl, hl, q⟩⟩ := h
  · (repeat ((conv => whnf); first | refine cnd.yes ?_ | refine cnd.no ?_ | refine cnd.decY (by first | rfl | omega) ?_ | refine cnd.decN (by omega) ?_ | refine cnd.notY (by omega) ?_ | refine cnd.notN (by first | rfl | omega) ?_ | refine cnd.decY (by simp only [List.length_cons, List.length_nil, List.length_map, List.length_append]; omega) ?_ | refine cnd.decN (by simp only [List.length_cons, List.length_nil, List.length_map, List.length_append]; omega) ?_ | refine Exists.intro _ (And.intro atI_zero ?_) | refine Exists.intro _ (And.intro atI_one ?_) | refine Exists.intro _ (And.intro (atI_last _ _) ?_) | refine Exists.intro _ (And.intro (setAt_last _ _ _) ?_) | refine Exists.intro _ (Exists.intro _ (Exists.intro _ (Exists.intro _ (And.intro rfl ?_)))) | refine Exists.intro _ (And.intro rfl ?_) | refine Exists.intro _ (Exists.intro _ (And.intro rfl ?_)) | refine Exists.intro _ (Exists.intro _ (Exists.intro _ (And.intro rfl ?_))) | refine And.intro (cdivW_small (by first | decide | omega) (by first | decide | omega)) ?_ | refine And.intro (.inl (.inl ⟨by omega, by omega⟩)) ?_ | refine And.intro (.inl (.inr ⟨by omega, by omega⟩)) ?_ | refine And.intro ⟨by decide, by decide, by decide⟩ ?_ | refine And.intro (by decide) ?_ | refine And.intro (by omega) ?_ | refine And.intro (by simp only [List.length_cons, List.length_nil]; decide) ?_ | refine And.intro (by simp only [List.length_cons, List.length_nil, List.length_map, List.length_append]; omega) ?_)); (conv => whnf)
    exact q
  · (repeat ((conv => whnf); first | refine cnd.yes ?_ | refine cnd.no ?_ | refine cnd.decY (by first | rfl | omega) ?_ | refine cnd.decN (by omega) ?_ | refine cnd.notY (by omega) ?_ | refine cnd.notN (by first | rfl | omega) ?_ | refine cnd.decY (by simp only [List.length_cons, List.length_nil, List.length_map, List.length_append]; omega) ?_ | refine cnd.decN (by simp only [List.length_cons, List.length_nil, List.length_map, List.length_append]; omega) ?_ | refine Exists.intro _ (And.intro atI_zero ?_) | refine Exists.intro _ (And.intro atI_one ?_) | refine Exists.intro _ (And.intro (atI_last _ _) ?_) | refine Exists.intro _ (And.intro (setAt_last _ _ _) ?_) | refine Exists.intro _ (Exists.intro _ (Exists.intro _ (Exists.intro _ (And.intro rfl ?_)))) | refine Exists.intro _ (And.intro rfl ?_) | refine Exists.intro _ (Exists.intro _ (And.intro rfl ?_)) | refine Exists.intro _ (Exists.intro _ (Exists.intro _ (And.intro rfl ?_))) | refine And.intro (cdivW_small (by first | decide | omega) (by first | decide | omega)) ?_ | refine And.intro (.inl (.inl ⟨by omega, by omega⟩)) ?_ | refine And.intro (.inl (.inr ⟨by omega, by omega⟩)) ?_ | refine And.intro ⟨by decide, by decide, by decide⟩ ?_ | refine And.intro (by decide) ?_ | refine And.intro (by omega) ?_ | refine And.intro (by simp only [List.length_cons, List.length_nil]; decide) ?_ | refine And.intro (by simp only [List.length_cons, List.length_nil, List.length_map, List.length_append]; omega) ?_)); (conv => whnf)
    exact q
  · (repeat ((conv => whnf); first | refine cnd.yes ?_ | refine cnd.no ?_ | refine cnd.decY (by first | rfl | omega) ?_ | refine cnd.decN (by omega) ?_ | refine cnd.notY (by omega) ?_ | refine cnd.notN (by first | rfl | omega) ?_ | refine cnd.decY (by simp only [List.length_cons, List.length_nil, List.length_map, List.length_append]; omega) ?_ | refine cnd.decN (by simp only [List.length_cons, List.length_nil, List.length_map, List.length_append]; omega) ?_ | refine Exists.intro _ (And.intro atI_zero ?_) | refine Exists.intro _ (And.intro atI_one ?_) | refine Exists.intro _ (And.intro (atI_last _ _) ?_) | refine Exists.intro _ (And.intro (setAt_last _ _ _) ?_) | refine Exists.intro _ (Exists.intro _ (Exists.intro _ (Exists.intro _ (And.intro rfl ?_)))) | refine Exists.intro _ (And.intro rfl ?_) | refine Exists.intro _ (Exists.intro _ (And.intro rfl ?_)) | refine Exists.intro _ (Exists.intro _ (Exists.intro _ (And.intro rfl ?_))) | refine And.intro (cdivW_small (by first | decide | omega) (by first | decide | omega)) ?_ | refine And.intro (.inl (.inl ⟨by omega, by omega⟩)) ?_ | refine And.intro (.inl (.inr ⟨by omega, by omega⟩)) ?_ | refine And.intro ⟨by decide, by decide, by decide⟩ ?_ | refine And.intro (by decide) ?_ | refine And.intro (by omega) ?_ | refine And.intro (by simp only [List.length_cons, List.length_nil]; decide) ?_ | refine And.intro (by simp only [List.length_cons, List.length_nil, List.length_map, List.length_append]; omega) ?_)); (conv => whnf)
    refine lcQ_all bs encB (fun b => .bool (okB b)) (by omega) (fun x hx KK S hK => ?_) ?_
    · (repeat ((conv => whnf); first | refine cnd.yes ?_ | refine cnd.no ?_ | refine cnd.decY (by first | rfl | omega) ?_ | refine cnd.decN (by omega) ?_ | refine cnd.notY (by omega) ?_ | refine cnd.notN (by first | rfl | omega) ?_ | refine cnd.decY (by simp only [List.length_cons, List.length_nil, List.length_map, List.length_append]; omega) ?_ | refine cnd.decN (by simp only [List.length_cons, List.length_nil, List.length_map, List.length_append]; omega) ?_ | refine Exists.intro _ (And.intro atI_zero ?_) | refine Exists.intro _ (And.intro atI_one ?_) | refine Exists.intro _ (And.intro (atI_last _ _) ?_) | refine Exists.intro _ (And.intro (setAt_last _ _ _) ?_) | refine Exists.intro _ (Exists.intro _ (Exists.intro _ (Exists.intro _ (And.intro rfl ?_)))) | refine Exists.intro _ (And.intro rfl ?_) | refine Exists.intro _ (Exists.intro _ (And.intro rfl ?_)) | refine Exists.intro _ (Exists.intro _ (Exists.intro _ (And.intro rfl ?_))) | refine And.intro (cdivW_small (by first | decide | omega) (by first | decide | omega)) ?_ | refine And.intro (.inl (.inl ⟨by omega, by omega⟩)) ?_ | refine And.intro (.inl (.inr ⟨by omega, by omega⟩)) ?_ | refine And.intro ⟨by decide, by decide, by decide⟩ ?_ | refine And.intro (by decide) ?_ | refine And.intro (by omega) ?_ | refine And.intro (by simp only [List.length_cons, List.length_nil]; decide) ?_ | refine And.intro (by simp only [List.length_cons, List.length_nil, List.length_map, List.length_append]; omega) ?_)); (conv => whnf)
      exact hK
    · conv => whnf
      refine ⟨bs.map okB, by rw [bools_is], ?_⟩
      conv => whnf
      have e1 : ((bs.map okB).all fun b => b) = bs.all okB := by rw [List.all_map]; rfl
      rw [e1]
      unfold validB at q
      cases hz : bs.all okB with
      | false =>
        rw [hz] at q
        (repeat ((conv => whnf); first | refine cnd.yes ?_ | refine cnd.no ?_ | refine cnd.decY (by first | rfl | omega) ?_ | refine cnd.decN (by omega) ?_ | refine cnd.notY (by omega) ?_ | refine cnd.notN (by first | rfl | omega) ?_ | refine cnd.decY (by simp only [List.length_cons, List.length_nil, List.length_map, List.length_append]; omega) ?_ | refine cnd.decN (by simp only [List.length_cons, List.length_nil, List.length_map, List.length_append]; omega) ?_ | refine Exists.intro _ (And.intro atI_zero ?_) | refine Exists.intro _ (And.intro atI_one ?_) | refine Exists.intro _ (And.intro (atI_last _ _) ?_) | refine Exists.intro _ (And.intro (setAt_last _ _ _) ?_) | refine Exists.intro _ (Exists.intro _ (Exists.intro _ (Exists.intro _ (And.intro rfl ?_)))) | refine Exists.intro _ (And.intro rfl ?_) | refine Exists.intro _ (Exists.intro _ (And.intro rfl ?_)) | refine Exists.intro _ (Exists.intro _ (Exists.intro _ (And.intro rfl ?_))) | refine And.intro (cdivW_small (by first | decide | omega) (by first | decide | omega)) ?_ | refine And.intro (.inl (.inl ⟨by omega, by omega⟩)) ?_ | refine And.intro (.inl (.inr ⟨by omega, by omega⟩)) ?_ | refine And.intro ⟨by decide, by decide, by decide⟩ ?_ | refine And.intro (by decide) ?_ | refine And.intro (by omega) ?_ | refine And.intro (by simp only [List.length_cons, List.length_nil]; decide) ?_ | refine And.intro (by simp only [List.length_cons, List.length_nil, List.length_map, List.length_append]; omega) ?_)); (conv => whnf)
        exact q
      | true =>
        rw [hz, Bool.true_and] at q
        cases bs with
        | nil =>
          (repeat ((conv => whnf); first | refine cnd.yes ?_ | refine cnd.no ?_ | refine cnd.decY (by first | rfl | omega) ?_ | refine cnd.decN (by omega) ?_ | refine cnd.notY (by omega) ?_ | refine cnd.notN (by first | rfl | omega) ?_ | refine cnd.decY (by simp only [List.length_cons, List.length_nil, List.length_map, List.length_append]; omega) ?_ | refine cnd.decN (by simp only [List.length_cons, List.length_nil, List.length_map, List.length_append]; omega) ?_ | refine Exists.intro _ (And.intro atI_zero ?_) | refine Exists.intro _ (And.intro atI_one ?_) | refine Exists.intro _ (And.intro (atI_last _ _) ?_) | refine Exists.intro _ (And.intro (setAt_last _ _ _) ?_) | refine Exists.intro _ (Exists.intro _ (Exists.intro _ (Exists.intro _ (And.intro rfl ?_)))) | refine Exists.intro _ (And.intro rfl ?_) | refine Exists.intro _ (Exists.intro _ (And.intro rfl ?_)) | refine Exists.intro _ (Exists.intro _ (Exists.intro _ (And.intro rfl ?_))) | refine And.intro (cdivW_small (by first | decide | omega) (by first | decide | omega)) ?_ | refine And.intro (.inl (.inl ⟨by omega, by omega⟩)) ?_ | refine And.intro (.inl (.inr ⟨by omega, by omega⟩)) ?_ | refine And.intro ⟨by decide, by decide, by decide⟩ ?_ | refine And.intro (by decide) ?_ | refine And.intro (by omega) ?_ | refine And.intro (by simp only [List.length_cons, List.length_nil]; decide) ?_ | refine And.intro (by simp only [List.length_cons, List.length_nil, List.length_map, List.length_append]; omega) ?_)); (conv => whnf)
          rw [zip_next]
          refine lcQ_all (([] : List Bl).zip ([] : List Bl).tail) (fun p => .tuple [encB p.1, encB p.2]) (fun p => .bool (decide (p.1.2 + L < p.2.1))) (by rw [List.length_zip]; omega) (fun x hx KK S hK => ?_) ?_
          · (repeat ((conv => whnf); first | refine cnd.yes ?_ | refine cnd.no ?_ | refine cnd.decY (by first | rfl | omega) ?_ | refine cnd.decN (by omega) ?_ | refine cnd.notY (by omega) ?_ | refine cnd.notN (by first | rfl | omega) ?_ | refine cnd.decY (by simp only [List.length_cons, List.length_nil, List.length_map, List.length_append]; omega) ?_ | refine cnd.decN (by simp only [List.length_cons, List.length_nil, List.length_map, List.length_append]; omega) ?_ | refine Exists.intro _ (And.intro atI_zero ?_) | refine Exists.intro _ (And.intro atI_one ?_) | refine Exists.intro _ (And.intro (atI_last _ _) ?_) | refine Exists.intro _ (And.intro (setAt_last _ _ _) ?_) | refine Exists.intro _ (Exists.intro _ (Exists.intro _ (Exists.intro _ (And.intro rfl ?_)))) | refine Exists.intro _ (And.intro rfl ?_) | refine Exists.intro _ (Exists.intro _ (And.intro rfl ?_)) | refine Exists.intro _ (Exists.intro _ (Exists.intro _ (And.intro rfl ?_))) | refine And.intro (cdivW_small (by first | decide | omega) (by first | decide | omega)) ?_ | refine And.intro (.inl (.inl ⟨by omega, by omega⟩)) ?_ | refine And.intro (.inl (.inr ⟨by omega, by omega⟩)) ?_ | refine And.intro ⟨by decide, by decide, by decide⟩ ?_ | refine And.intro (by decide) ?_ | refine And.intro (by omega) ?_ | refine And.intro (by simp only [List.length_cons, List.length_nil]; decide) ?_ | refine And.intro (by simp only [List.length_cons, List.length_nil, List.length_map, List.length_append]; omega) ?_)); (conv => whnf)
            exact hK
          · conv => whnf
            refine ⟨(([] : List Bl).zip ([] : List Bl).tail).map fun p => decide (p.1.2 + L < p.2.1), by rw [bools_is], ?_⟩
            conv => whnf
            rw [List.all_map]
            exact q
        | cons b bs =>
          (repeat ((conv => whnf); first | refine cnd.yes ?_ | refine cnd.no ?_ | refine cnd.decY (by first | rfl | omega) ?_ | refine cnd.decN (by omega) ?_ | refine cnd.notY (by omega) ?_ | refine cnd.notN (by first | rfl | omega) ?_ | refine cnd.decY (by simp only [List.length_cons, List.length_nil, List.length_map, List.length_append]; omega) ?_ | refine cnd.decN (by simp only [List.length_cons, List.length_nil, List.length_map, List.length_append]; omega) ?_ | refine Exists.intro _ (And.intro atI_zero ?_) | refine Exists.intro _ (And.intro atI_one ?_) | refine Exists.intro _ (And.intro (atI_last _ _) ?_) | refine Exists.intro _ (And.intro (setAt_last _ _ _) ?_) | refine Exists.intro _ (Exists.intro _ (Exists.intro _ (Exists.intro _ (And.intro rfl ?_)))) | refine Exists.intro _ (And.intro rfl ?_) | refine Exists.intro _ (Exists.intro _ (And.intro rfl ?_)) | refine Exists.intro _ (Exists.intro _ (Exists.intro _ (And.intro rfl ?_))) | refine And.intro (cdivW_small (by first | decide | omega) (by first | decide | omega)) ?_ | refine And.intro (.inl (.inl ⟨by omega, by omega⟩)) ?_ | refine And.intro (.inl (.inr ⟨by omega, by omega⟩)) ?_ | refine And.intro ⟨by decide, by decide, by decide⟩ ?_ | refine And.intro (by decide) ?_ | refine And.intro (by omega) ?_ | refine And.intro (by simp only [List.length_cons, List.length_nil]; decide) ?_ | refine And.intro (by simp only [List.length_cons, List.length_nil, List.length_map, List.length_append]; omega) ?_)); (conv => whnf)
          refine .dec (fun hb => ?_) fun hb => ?_
          · rw [show fitL L (b :: bs) = false from decide_eq_false (by omega), Bool.false_and] at q
            (repeat ((conv => whnf); first | refine cnd.yes ?_ | refine cnd.no ?_ | refine cnd.decY (by first | rfl | omega) ?_ | refine cnd.decN (by omega) ?_ | refine cnd.notY (by omega) ?_ | refine cnd.notN (by first | rfl | omega) ?_ | refine cnd.decY (by simp only [List.length_cons, List.length_nil, List.length_map, List.length_append]; omega) ?_ | refine cnd.decN (by simp only [List.length_cons, List.length_nil, List.length_map, List.length_append]; omega) ?_ | refine Exists.intro _ (And.intro atI_zero ?_) | refine Exists.intro _ (And.intro atI_one ?_) | refine Exists.intro _ (And.intro (atI_last _ _) ?_) | refine Exists.intro _ (And.intro (setAt_last _ _ _) ?_) | refine Exists.intro _ (Exists.intro _ (Exists.intro _ (Exists.intro _ (And.intro rfl ?_)))) | refine Exists.intro _ (And.intro rfl ?_) | refine Exists.intro _ (Exists.intro _ (And.intro rfl ?_)) | refine Exists.intro _ (Exists.intro _ (Exists.intro _ (And.intro rfl ?_))) | refine And.intro (cdivW_small (by first | decide | omega) (by first | decide | omega)) ?_ | refine And.intro (.inl (.inl ⟨by omega, by omega⟩)) ?_ | refine And.intro (.inl (.inr ⟨by omega, by omega⟩)) ?_ | refine And.intro ⟨by decide, by decide, by decide⟩ ?_ | refine And.intro (by decide) ?_ | refine And.intro (by omega) ?_ | refine And.intro (by simp only [List.length_cons, List.length_nil]; decide) ?_ | refine And.intro (by simp only [List.length_cons, List.length_nil, List.length_map, List.length_append]; omega) ?_)); (conv => whnf)
            exact q
          · rw [show fitL L (b :: bs) = true from decide_eq_true (by omega), Bool.true_and] at q
            (repeat ((conv => whnf); first | refine cnd.yes ?_ | refine cnd.no ?_ | refine cnd.decY (by first | rfl | omega) ?_ | refine cnd.decN (by omega) ?_ | refine cnd.notY (by omega) ?_ | refine cnd.notN (by first | rfl | omega) ?_ | refine cnd.decY (by simp only [List.length_cons, List.length_nil, List.length_map, List.length_append]; omega) ?_ | refine cnd.decN (by simp only [List.length_cons, List.length_nil, List.length_map, List.length_append]; omega) ?_ | refine Exists.intro _ (And.intro atI_zero ?_) | refine Exists.intro _ (And.intro atI_one ?_) | refine Exists.intro _ (And.intro (atI_last _ _) ?_) | refine Exists.intro _ (And.intro (setAt_last _ _ _) ?_) | refine Exists.intro _ (Exists.intro _ (Exists.intro _ (Exists.intro _ (And.intro rfl ?_)))) | refine Exists.intro _ (And.intro rfl ?_) | refine Exists.intro _ (Exists.intro _ (And.intro rfl ?_)) | refine Exists.intro _ (Exists.intro _ (Exists.intro _ (And.intro rfl ?_))) | refine And.intro (cdivW_small (by first | decide | omega) (by first | decide | omega)) ?_ | refine And.intro (.inl (.inl ⟨by omega, by omega⟩)) ?_ | refine And.intro (.inl (.inr ⟨by omega, by omega⟩)) ?_ | refine And.intro ⟨by decide, by decide, by decide⟩ ?_ | refine And.intro (by decide) ?_ | refine And.intro (by omega) ?_ | refine And.intro (by simp only [List.length_cons, List.length_nil]; decide) ?_ | refine And.intro (by simp only [List.length_cons, List.length_nil, List.length_map, List.length_append]; omega) ?_)); (conv => whnf)
            rw [zip_next]
            refine lcQ_all ((b :: bs).zip (b :: bs).tail) (fun p => .tuple [encB p.1, encB p.2]) (fun p => .bool (decide (p.1.2 + L < p.2.1))) (by rw [List.length_zip]; omega) (fun x hx KK S hK => ?_) ?_
            · (repeat ((conv => whnf); first | refine cnd.yes ?_ | refine cnd.no ?_ | refine cnd.decY (by first | rfl | omega) ?_ | refine cnd.decN (by omega) ?_ | refine cnd.notY (by omega) ?_ | refine cnd.notN (by first | rfl | omega) ?_ | refine cnd.decY (by simp only [List.length_cons, List.length_nil, List.length_map, List.length_append]; omega) ?_ | refine cnd.decN (by simp only [List.length_cons, List.length_nil, List.length_map, List.length_append]; omega) ?_ | refine Exists.intro _ (And.intro atI_zero ?_) | refine Exists.intro _ (And.intro atI_one ?_) | refine Exists.intro _ (And.intro (atI_last _ _) ?_) | refine Exists.intro _ (And.intro (setAt_last _ _ _) ?_) | refine Exists.intro _ (Exists.intro _ (Exists.intro _ (Exists.intro _ (And.intro rfl ?_)))) | refine Exists.intro _ (And.intro rfl ?_) | refine Exists.intro _ (Exists.intro _ (And.intro rfl ?_)) | refine Exists.intro _ (Exists.intro _ (Exists.intro _ (And.intro rfl ?_))) | refine And.intro (cdivW_small (by first | decide | omega) (by first | decide | omega)) ?_ | refine And.intro (.inl (.inl ⟨by omega, by omega⟩)) ?_ | refine And.intro (.inl (.inr ⟨by omega, by omega⟩)) ?_ | refine And.intro ⟨by decide, by decide, by decide⟩ ?_ | refine And.intro (by decide) ?_ | refine And.intro (by omega) ?_ | refine And.intro (by simp only [List.length_cons, List.length_nil]; decide) ?_ | refine And.intro (by simp only [List.length_cons, List.length_nil, List.length_map, List.length_append]; omega) ?_)); (conv => whnf)
              exact hK
            · conv => whnf
              refine ⟨((b :: bs).zip (b :: bs).tail).map fun p => decide (p.1.2 + L < p.2.1), by rw [bools_is], ?_⟩
              conv => whnf
              rw [List.all_map]
              exact q
def Φ_blocks_of : PhiP := fun ds Q => ∃ f : Option (List Bl), ds = [encF f] ∧ (∀ bs, f = some bs → bs.length ≤ 1000) ∧ Q (.tuple ((f.getD []).map encB))
theorem m_blocks_of : ∀ {ds : List PD} {Q Q' : PD → Prop}, (∀ d, Q d → Q' d) → Φ_blocks_of ds Q → Φ_blocks_of ds Q' := fun h ⟨b, e, l, q⟩ => ⟨b, e, l, h _ q⟩
theorem l_blocks_of : ∀ ds Q, Φ_blocks_of ds Q → ds.length = 1 := fun ds Q ⟨b, e, _⟩ => by rw [e]; rfl
theorem at_blocks_of (T : Tp K mg) : FnAt P w K mg base "blocks_of" 6 (spP K Φ_blocks_of) := by
  obtain ⟨f, fd, F, hm, hb⟩ := T.d_blocks_of
  refine ⟨f, fd, ["blocks"], fn_p F sc_blocks_of l_blocks_of fun cdv A outer s H E hr => ⟨_, (dss_one (ds_ret (de_if (dt_cmp (hu65 hr) (de_var 0) de_non) (de_tup da_nil) (de_call (at_tupled T 4) hr (m_tupled 4) (da_cons (de_var 0) da_nil))))), fun ds Q h => ?_⟩, hm, F.kp, hb⟩
  obtain ⟨f, rfl, hl, q⟩ := h
  cases f with
  | none =>
    (repeat ((conv => whnf); first | refine cnd.yes ?_ | refine cnd.no ?_ | refine cnd.decY (by first | rfl | omega) ?_ | refine cnd.decN (by omega) ?_ | refine cnd.notY (by omega) ?_ | refine cnd.notN (by first | rfl | omega) ?_ | refine cnd.decY (by simp only [List.length_cons, List.length_nil, List.length_map, List.length_append]; omega) ?_ | refine cnd.decN (by simp only [List.length_cons, List.length_nil, List.length_map, List.length_append]; omega) ?_ | refine Exists.intro _ (And.intro atI_zero ?_) | refine Exists.intro _ (And.intro atI_one ?_) | refine Exists.intro _ (And.intro (atI_last _ _) ?_) | refine Exists.intro _ (And.intro (setAt_last _ _ _) ?_) | refine Exists.intro _ (Exists.intro _ (Exists.intro _ (Exists.intro _ (And.intro rfl ?_)))) | refine Exists.intro _ (And.intro rfl ?_) | refine Exists.intro _ (Exists.intro _ (And.intro rfl ?_)) | refine Exists.intro _ (Exists.intro _ (Exists.intro _ (And.intro rfl ?_))) | refine And.intro (cdivW_small (by first | decide | omega) (by first | decide | omega)) ?_ | refine And.intro (.inl (.inl ⟨by omega, by omega⟩)) ?_ | refine And.intro (.inl (.inr ⟨by omega, by omega⟩)) ?_ | refine And.intro ⟨by decide, by decide, by decide⟩ ?_ | refine And.intro (by decide) ?_ | refine And.intro (by omega) ?_ | refine And.intro (by simp only [List.length_cons, List.length_nil]; decide) ?_ | refine And.intro (by simp only [List.length_cons, List.length_nil, List.length_map, List.length_append]; omega) ?_)); (conv => whnf)
    exact q
  | some bs =>
    have ok := okT_F (f := some bs) fun cs e => Nat.le_trans (hl cs e) (by decide)
    (repeat ((conv => whnf); first | refine cnd.yes ?_ | refine cnd.no ?_ | refine cnd.decY (by first | rfl | omega) ?_ | refine cnd.decN (by omega) ?_ | refine cnd.notY (by omega) ?_ | refine cnd.notN (by first | rfl | omega) ?_ | refine cnd.decY (by simp only [List.length_cons, List.length_nil, List.length_map, List.length_append]; omega) ?_ | refine cnd.decN (by simp only [List.length_cons, List.length_nil, List.length_map, List.length_append]; omega) ?_ | refine Exists.intro _ (And.intro atI_zero ?_) | refine Exists.intro _ (And.intro atI_one ?_) | refine Exists.intro _ (And.intro (atI_last _ _) ?_) | refine Exists.intro _ (And.intro (setAt_last _ _ _) ?_) | refine Exists.intro _ (Exists.intro _ (Exists.intro _ (Exists.intro _ (And.intro rfl ?_)))) | refine Exists.intro _ (And.intro rfl ?_) | refine Exists.intro _ (Exists.intro _ (And.intro rfl ?_)) | refine Exists.intro _ (Exists.intro _ (Exists.intro _ (And.intro rfl ?_))) | refine And.intro (cdivW_small (by first | decide | omega) (by first | decide | omega)) ?_ | refine And.intro (.inl (.inl ⟨by omega, by omega⟩)) ?_ | refine And.intro (.inl (.inr ⟨by omega, by omega⟩)) ?_ | refine And.intro ⟨by decide, by decide, by decide⟩ ?_ | refine And.intro (by decide) ?_ | refine And.intro (by omega) ?_ | refine And.intro (by simp only [List.length_cons, List.length_nil]; decide) ?_ | refine And.intro (by simp only [List.length_cons, List.length_nil, List.length_map, List.length_append]; omega) ?_)); (conv => whnf)
    refine ⟨okN_up (okT_ok ok), ?_⟩
    rw [show tupD 4 (encF (some bs)) = encF (some bs) from tupD_same (okT_up ok)]
    (repeat ((conv => whnf); first | refine cnd.yes ?_ | refine cnd.no ?_ | refine cnd.decY (by first | rfl | omega) ?_ | refine cnd.decN (by omega) ?_ | refine cnd.notY (by omega) ?_ | refine cnd.notN (by first | rfl | omega) ?_ | refine cnd.decY (by simp only [List.length_cons, List.length_nil, List.length_map, List.length_append]; omega) ?_ | refine cnd.decN (by simp only [List.length_cons, List.length_nil, List.length_map, List.length_append]; omega) ?_ | refine Exists.intro _ (And.intro atI_zero ?_) | refine Exists.intro _ (And.intro atI_one ?_) | refine Exists.intro _ (And.intro (atI_last _ _) ?_) | refine Exists.intro _ (And.intro (setAt_last _ _ _) ?_) | refine Exists.intro _ (Exists.intro _ (Exists.intro _ (Exists.intro _ (And.intro rfl ?_)))) | refine Exists.intro _ (And.intro rfl ?_) | refine Exists.intro _ (Exists.intro _ (And.intro rfl ?_)) | refine Exists.intro _ (Exists.intro _ (Exists.intro _ (And.intro rfl ?_))) | refine And.intro (cdivW_small (by first | decide | omega) (by first | decide | omega)) ?_ | refine And.intro (.inl (.inl ⟨by omega, by omega⟩)) ?_ | refine And.intro (.inl (.inr ⟨by omega, by omega⟩)) ?_ | refine And.intro ⟨by decide, by decide, by decide⟩ ?_ | refine And.intro (by decide) ?_ | refine And.intro (by omega) ?_ | refine And.intro (by simp only [List.length_cons, List.length_nil]; decide) ?_ | refine And.intro (by simp only [List.length_cons, List.length_nil, List.length_map, List.length_append]; omega) ?_)); (conv => whnf)
    exact q
def many (bs : List Bl) : Int := (bs.map fun b => b.2 - b.1 + 1).sum
def Φ_many_numbers : PhiP := fun ds Q => ∃ f : Option (List Bl), ds = [encF f] ∧ (∀ bs, f = some bs → bs.length ≤ 1000) ∧ Q (.int (many (f.getD [])))
theorem m_many_numbers : ∀ {ds : List PD} {Q Q' : PD → Prop}, (∀ d, Q d → Q' d) → Φ_many_numbers ds Q → Φ_many_numbers ds Q' := fun h ⟨b, e, l, q⟩ => ⟨b, e, l, h _ q⟩
theorem l_many_numbers : ∀ ds Q, Φ_many_numbers ds Q → ds.length = 1 := fun ds Q ⟨b, e, _⟩ => by rw [e]; rfl
theorem at_many_numbers (T : Tp K mg) : FnAt P w K mg base "many_numbers" 7 (spP K Φ_many_numbers) := by
  obtain ⟨f, fd, F, hm, hb⟩ := T.d_many_numbers
  refine ⟨f, fd, ["blocks"], fn_p F sc_many_numbers l_many_numbers fun cdv A outer s H E hr => ⟨_, (dss_one (ds_ret (de_callB (sum_ok rfl) sumW_m T.sum b_sum (de_lc rfl sc_many_numbers.nd (blkOk_by (N := ["blocks", "low", "high"]) (sc := defScope s_many_numbers) (own := [("low", 1), ("high", 2)]) (by decide +kernel)) (lc_ok (di_exp (de_call (at_blocks_of T) hr m_blocks_of (da_cons (de_var 0) da_nil))) (fun _ _ _ _ _ => (dg_t rfl (dgs_cons (dg_n 1 sc_many_numbers.nd) (dgs_cons (dg_n 2 sc_many_numbers.nd) dgs_nil)) (hl := gs2))) (fun _ _ _ _ _ => dp_nil) (fun _ _ _ _ _ => (de_bin (de_bin (de_var 2) (de_var 1)) de_int))))))), fun ds Q h => ?_⟩, hm, F.kp, hb⟩
  obtain ⟨f, rfl, hl, q⟩ := h
  have hl2 : (f.getD []).length ≤ 1000 := by
    cases f with
    | none => exact Nat.zero_le _
    | some bs => exact hl bs rfl
  conv => whnf
  refine ⟨f, rfl, hl, ?_⟩
  (repeat ((conv => whnf); first | refine cnd.yes ?_ | refine cnd.no ?_ | refine cnd.decY (by first | rfl | omega) ?_ | refine cnd.decN (by omega) ?_ | refine cnd.notY (by omega) ?_ | refine cnd.notN (by first | rfl | omega) ?_ | refine cnd.decY (by simp only [List.length_cons, List.length_nil, List.length_map, List.length_append]; omega) ?_ | refine cnd.decN (by simp only [List.length_cons, List.length_nil, List.length_map, List.length_append]; omega) ?_ | refine Exists.intro _ (And.intro atI_zero ?_) | refine Exists.intro _ (And.intro atI_one ?_) | refine Exists.intro _ (And.intro (atI_last _ _) ?_) | refine Exists.intro _ (And.intro (setAt_last _ _ _) ?_) | refine Exists.intro _ (Exists.intro _ (Exists.intro _ (Exists.intro _ (And.intro rfl ?_)))) | refine Exists.intro _ (And.intro rfl ?_) | refine Exists.intro _ (Exists.intro _ (And.intro rfl ?_)) | refine Exists.intro _ (Exists.intro _ (Exists.intro _ (And.intro rfl ?_))) | refine And.intro (cdivW_small (by first | decide | omega) (by first | decide | omega)) ?_ | refine And.intro (.inl (.inl ⟨by omega, by omega⟩)) ?_ | refine And.intro (.inl (.inr ⟨by omega, by omega⟩)) ?_ | refine And.intro ⟨by decide, by decide, by decide⟩ ?_ | refine And.intro (by decide) ?_ | refine And.intro (by omega) ?_ | refine And.intro (by simp only [List.length_cons, List.length_nil]; decide) ?_ | refine And.intro (by simp only [List.length_cons, List.length_nil, List.length_map, List.length_append]; omega) ?_)); (conv => whnf)
  refine lcQ_all (f.getD []) encB (fun b => .int (b.2 - b.1 + 1)) (by omega) (fun x hx KK S hK => ?_) ?_
  · (repeat ((conv => whnf); first | refine cnd.yes ?_ | refine cnd.no ?_ | refine cnd.decY (by first | rfl | omega) ?_ | refine cnd.decN (by omega) ?_ | refine cnd.notY (by omega) ?_ | refine cnd.notN (by first | rfl | omega) ?_ | refine cnd.decY (by simp only [List.length_cons, List.length_nil, List.length_map, List.length_append]; omega) ?_ | refine cnd.decN (by simp only [List.length_cons, List.length_nil, List.length_map, List.length_append]; omega) ?_ | refine Exists.intro _ (And.intro atI_zero ?_) | refine Exists.intro _ (And.intro atI_one ?_) | refine Exists.intro _ (And.intro (atI_last _ _) ?_) | refine Exists.intro _ (And.intro (setAt_last _ _ _) ?_) | refine Exists.intro _ (Exists.intro _ (Exists.intro _ (Exists.intro _ (And.intro rfl ?_)))) | refine Exists.intro _ (And.intro rfl ?_) | refine Exists.intro _ (Exists.intro _ (And.intro rfl ?_)) | refine Exists.intro _ (Exists.intro _ (Exists.intro _ (And.intro rfl ?_))) | refine And.intro (cdivW_small (by first | decide | omega) (by first | decide | omega)) ?_ | refine And.intro (.inl (.inl ⟨by omega, by omega⟩)) ?_ | refine And.intro (.inl (.inr ⟨by omega, by omega⟩)) ?_ | refine And.intro ⟨by decide, by decide, by decide⟩ ?_ | refine And.intro (by decide) ?_ | refine And.intro (by omega) ?_ | refine And.intro (by simp only [List.length_cons, List.length_nil]; decide) ?_ | refine And.intro (by simp only [List.length_cons, List.length_nil, List.length_map, List.length_append]; omega) ?_)); (conv => whnf)
    exact hK
  · conv => whnf
    refine ⟨(f.getD []).map fun b => b.2 - b.1 + 1, ?_, ?_⟩
    · rw [ints_is]; rfl
    · (repeat ((conv => whnf); first | refine cnd.yes ?_ | refine cnd.no ?_ | refine cnd.decY (by first | rfl | omega) ?_ | refine cnd.decN (by omega) ?_ | refine cnd.notY (by omega) ?_ | refine cnd.notN (by first | rfl | omega) ?_ | refine cnd.decY (by simp only [List.length_cons, List.length_nil, List.length_map, List.length_append]; omega) ?_ | refine cnd.decN (by simp only [List.length_cons, List.length_nil, List.length_map, List.length_append]; omega) ?_ | refine Exists.intro _ (And.intro atI_zero ?_) | refine Exists.intro _ (And.intro atI_one ?_) | refine Exists.intro _ (And.intro (atI_last _ _) ?_) | refine Exists.intro _ (And.intro (setAt_last _ _ _) ?_) | refine Exists.intro _ (Exists.intro _ (Exists.intro _ (Exists.intro _ (And.intro rfl ?_)))) | refine Exists.intro _ (And.intro rfl ?_) | refine Exists.intro _ (Exists.intro _ (And.intro rfl ?_)) | refine Exists.intro _ (Exists.intro _ (Exists.intro _ (And.intro rfl ?_))) | refine And.intro (cdivW_small (by first | decide | omega) (by first | decide | omega)) ?_ | refine And.intro (.inl (.inl ⟨by omega, by omega⟩)) ?_ | refine And.intro (.inl (.inr ⟨by omega, by omega⟩)) ?_ | refine And.intro ⟨by decide, by decide, by decide⟩ ?_ | refine And.intro (by decide) ?_ | refine And.intro (by omega) ?_ | refine And.intro (by simp only [List.length_cons, List.length_nil]; decide) ?_ | refine And.intro (by simp only [List.length_cons, List.length_nil, List.length_map, List.length_append]; omega) ?_)); (conv => whnf)
      exact q
def Φ_behind : PhiP := fun ds Q => ∃ (f g : Option (List Bl)) (L : Int), ds = [encF f, encF g, .int L] ∧ (∀ bs, f = some bs → bs.length ≤ 400) ∧ (∀ bs, g = some bs → bs.length ≤ 400) ∧ Q (encF (beh L f g))
theorem m_behind : ∀ {ds : List PD} {Q Q' : PD → Prop}, (∀ d, Q d → Q' d) → Φ_behind ds Q → Φ_behind ds Q' := fun h ⟨f, g, L, e, l1, l2, q⟩ => ⟨f, g, L, e, l1, l2, h _ q⟩
theorem l_behind : ∀ ds Q, Φ_behind ds Q → ds.length = 3 := fun ds Q ⟨f, g, L, e, _⟩ => by rw [e]; rfl
theorem at_behind (T : Tp K mg) : FnAt P w K mg base "behind" 6 (spP K Φ_behind) := by
  obtain ⟨f, fd, F, hm, hb⟩ := T.d_behind
  refine ⟨f, fd, ["first", "second", "least"], fn_p F sc_behind l_behind fun cdv A outer s H E hr => ⟨_, (dss_cons (ds_if (dt_w (dw_or (dt_cmp (hu65 hr) (de_var 0) de_non) (dw_or1 (dt_cmp (hu65 hr) (de_var 1) de_non)))) (dss_one (ds_ret de_non)) dss_nil)
    (dss_cons (ds_par false false 3 4 rfl sc_behind.nd (de_call (at_tupled T 4) hr (m_tupled 4) (da_cons (de_var 0) da_nil)) (de_call (at_tupled T 4) hr (m_tupled 4) (da_cons (de_var 1) da_nil)))
    (dss_cons (ds_if (dt_cmp (hu65 hr) (de_callB len_ok lenW_m T.len b_len (de_var 3)) de_int) (dss_one (ds_ret (de_var 4))) dss_nil)
    (dss_cons (ds_set false 5 sc_behind.nd (de_ix (de_ix (de_var 3) de_int) de_int))
    (dss_cons (ds_setLc false 6 rfl sc_behind.nd (blkOk_by (N := ["first", "second", "least", "ahead", "later", "bottom", "lower", "low", "high"]) (sc := defScope s_behind) (own := [("low", 7), ("high", 8)]) (by decide +kernel)) (lc_ok (di_exp (de_var 4)) (fun _ _ _ _ _ => (dg_t rfl (dgs_cons (dg_n 7 sc_behind.nd) (dgs_cons (dg_n 8 sc_behind.nd) dgs_nil)) (hl := gs2))) (fun _ _ _ _ _ => (dp_one (dt_cmp (hu65 hr) (de_var 7) (de_var 5)))) (fun _ _ _ _ _ => (de_tup (da_cons (de_var 7) (da_cons (de_callBN (min2_ok rfl) min2_m T.min b_min (da_cons (de_var 8) (da_cons (de_bin (de_var 5) de_int) da_nil))) da_nil))))))
    (dss_one (ds_ret (de_call (at_joined_blocks T) hr m_joined_blocks (da_cons (de_bin (de_var 6) (de_callTy list_ok listW_m T.list b_list (de_var 3))) (da_cons (de_var 2) da_nil)))))))))), fun ds Q h => ?_⟩, hm, F.kp, hb⟩
  obtain ⟨f, g, L, rfl, h1, h2, q⟩ := h
  cases f with
  | none =>
    (repeat ((conv => whnf); first | refine cnd.yes ?_ | refine cnd.no ?_ | refine cnd.decY (by first | rfl | omega) ?_ | refine cnd.decN (by omega) ?_ | refine cnd.notY (by omega) ?_ | refine cnd.notN (by first | rfl | omega) ?_ | refine cnd.decY (by simp only [List.length_cons, List.length_nil, List.length_map, List.length_append]; omega) ?_ | refine cnd.decN (by simp only [List.length_cons, List.length_nil, List.length_map, List.length_append]; omega) ?_ | refine Exists.intro _ (And.intro atI_zero ?_) | refine Exists.intro _ (And.intro atI_one ?_) | refine Exists.intro _ (And.intro (atI_last _ _) ?_) | refine Exists.intro _ (And.intro (setAt_last _ _ _) ?_) | refine Exists.intro _ (Exists.intro _ (Exists.intro _ (Exists.intro _ (And.intro rfl ?_)))) | refine Exists.intro _ (And.intro rfl ?_) | refine Exists.intro _ (Exists.intro _ (And.intro rfl ?_)) | refine Exists.intro _ (Exists.intro _ (Exists.intro _ (And.intro rfl ?_))) | refine And.intro (cdivW_small (by first | decide | omega) (by first | decide | omega)) ?_ | refine And.intro (.inl (.inl ⟨by omega, by omega⟩)) ?_ | refine And.intro (.inl (.inr ⟨by omega, by omega⟩)) ?_ | refine And.intro ⟨by decide, by decide, by decide⟩ ?_ | refine And.intro (by decide) ?_ | refine And.intro (by omega) ?_ | refine And.intro (by simp only [List.length_cons, List.length_nil]; decide) ?_ | refine And.intro (by simp only [List.length_cons, List.length_nil, List.length_map, List.length_append]; omega) ?_)); (conv => whnf)
    exact q
  | some f =>
    cases g with
    | none =>
      (repeat ((conv => whnf); first | refine cnd.yes ?_ | refine cnd.no ?_ | refine cnd.decY (by first | rfl | omega) ?_ | refine cnd.decN (by omega) ?_ | refine cnd.notY (by omega) ?_ | refine cnd.notN (by first | rfl | omega) ?_ | refine cnd.decY (by simp only [List.length_cons, List.length_nil, List.length_map, List.length_append]; omega) ?_ | refine cnd.decN (by simp only [List.length_cons, List.length_nil, List.length_map, List.length_append]; omega) ?_ | refine Exists.intro _ (And.intro atI_zero ?_) | refine Exists.intro _ (And.intro atI_one ?_) | refine Exists.intro _ (And.intro (atI_last _ _) ?_) | refine Exists.intro _ (And.intro (setAt_last _ _ _) ?_) | refine Exists.intro _ (Exists.intro _ (Exists.intro _ (Exists.intro _ (And.intro rfl ?_)))) | refine Exists.intro _ (And.intro rfl ?_) | refine Exists.intro _ (Exists.intro _ (And.intro rfl ?_)) | refine Exists.intro _ (Exists.intro _ (Exists.intro _ (And.intro rfl ?_))) | refine And.intro (cdivW_small (by first | decide | omega) (by first | decide | omega)) ?_ | refine And.intro (.inl (.inl ⟨by omega, by omega⟩)) ?_ | refine And.intro (.inl (.inr ⟨by omega, by omega⟩)) ?_ | refine And.intro ⟨by decide, by decide, by decide⟩ ?_ | refine And.intro (by decide) ?_ | refine And.intro (by omega) ?_ | refine And.intro (by simp only [List.length_cons, List.length_nil]; decide) ?_ | refine And.intro (by simp only [List.length_cons, List.length_nil, List.length_map, List.length_append]; omega) ?_)); (conv => whnf)
      rw [show beh L (some f) none = none by cases f <;> rfl] at q
      exact q
    | some g =>
      have ok1 := okT_F (f := some f) fun cs e => Nat.le_trans (h1 cs e) (by decide)
      have ok2 := okT_F (f := some g) fun cs e => Nat.le_trans (h2 cs e) (by decide)
      have h1 := h1 f rfl
      have h2 := h2 g rfl
      (repeat ((conv => whnf); first | refine cnd.yes ?_ | refine cnd.no ?_ | refine cnd.decY (by first | rfl | omega) ?_ | refine cnd.decN (by omega) ?_ | refine cnd.notY (by omega) ?_ | refine cnd.notN (by first | rfl | omega) ?_ | refine cnd.decY (by simp only [List.length_cons, List.length_nil, List.length_map, List.length_append]; omega) ?_ | refine cnd.decN (by simp only [List.length_cons, List.length_nil, List.length_map, List.length_append]; omega) ?_ | refine Exists.intro _ (And.intro atI_zero ?_) | refine Exists.intro _ (And.intro atI_one ?_) | refine Exists.intro _ (And.intro (atI_last _ _) ?_) | refine Exists.intro _ (And.intro (setAt_last _ _ _) ?_) | refine Exists.intro _ (Exists.intro _ (Exists.intro _ (Exists.intro _ (And.intro rfl ?_)))) | refine Exists.intro _ (And.intro rfl ?_) | refine Exists.intro _ (Exists.intro _ (And.intro rfl ?_)) | refine Exists.intro _ (Exists.intro _ (Exists.intro _ (And.intro rfl ?_))) | refine And.intro (cdivW_small (by first | decide | omega) (by first | decide | omega)) ?_ | refine And.intro (.inl (.inl ⟨by omega, by omega⟩)) ?_ | refine And.intro (.inl (.inr ⟨by omega, by omega⟩)) ?_ | refine And.intro ⟨by decide, by decide, by decide⟩ ?_ | refine And.intro (by decide) ?_ | refine And.intro (by omega) ?_ | refine And.intro (by simp only [List.length_cons, List.length_nil]; decide) ?_ | refine And.intro (by simp only [List.length_cons, List.length_nil, List.length_map, List.length_append]; omega) ?_)); (conv => whnf)
      refine ⟨okN_up (okT_ok ok1), ?_⟩
      rw [show tupD 4 (encF (some f)) = encF (some f) from tupD_same (okT_up ok1)]
      (repeat ((conv => whnf); first | refine cnd.yes ?_ | refine cnd.no ?_ | refine cnd.decY (by first | rfl | omega) ?_ | refine cnd.decN (by omega) ?_ | refine cnd.notY (by omega) ?_ | refine cnd.notN (by first | rfl | omega) ?_ | refine cnd.decY (by simp only [List.length_cons, List.length_nil, List.length_map, List.length_append]; omega) ?_ | refine cnd.decN (by simp only [List.length_cons, List.length_nil, List.length_map, List.length_append]; omega) ?_ | refine Exists.intro _ (And.intro atI_zero ?_) | refine Exists.intro _ (And.intro atI_one ?_) | refine Exists.intro _ (And.intro (atI_last _ _) ?_) | refine Exists.intro _ (And.intro (setAt_last _ _ _) ?_) | refine Exists.intro _ (Exists.intro _ (Exists.intro _ (Exists.intro _ (And.intro rfl ?_)))) | refine Exists.intro _ (And.intro rfl ?_) | refine Exists.intro _ (Exists.intro _ (And.intro rfl ?_)) | refine Exists.intro _ (Exists.intro _ (Exists.intro _ (And.intro rfl ?_))) | refine And.intro (cdivW_small (by first | decide | omega) (by first | decide | omega)) ?_ | refine And.intro (.inl (.inl ⟨by omega, by omega⟩)) ?_ | refine And.intro (.inl (.inr ⟨by omega, by omega⟩)) ?_ | refine And.intro ⟨by decide, by decide, by decide⟩ ?_ | refine And.intro (by decide) ?_ | refine And.intro (by omega) ?_ | refine And.intro (by simp only [List.length_cons, List.length_nil]; decide) ?_ | refine And.intro (by simp only [List.length_cons, List.length_nil, List.length_map, List.length_append]; omega) ?_)); (conv => whnf)
      refine ⟨okN_up (okT_ok ok2), ?_⟩
      rw [show tupD 4 (encF (some g)) = encF (some g) from tupD_same (okT_up ok2)]
      cases f with
      | nil =>
        (repeat ((conv => whnf); first | refine cnd.yes ?_ | refine cnd.no ?_ | refine cnd.decY (by first | rfl | omega) ?_ | refine cnd.decN (by omega) ?_ | refine cnd.notY (by omega) ?_ | refine cnd.notN (by first | rfl | omega) ?_ | refine cnd.decY (by simp only [List.length_cons, List.length_nil, List.length_map, List.length_append]; omega) ?_ | refine cnd.decN (by simp only [List.length_cons, List.length_nil, List.length_map, List.length_append]; omega) ?_ | refine Exists.intro _ (And.intro atI_zero ?_) | refine Exists.intro _ (And.intro atI_one ?_) | refine Exists.intro _ (And.intro (atI_last _ _) ?_) | refine Exists.intro _ (And.intro (setAt_last _ _ _) ?_) | refine Exists.intro _ (Exists.intro _ (Exists.intro _ (Exists.intro _ (And.intro rfl ?_)))) | refine Exists.intro _ (And.intro rfl ?_) | refine Exists.intro _ (Exists.intro _ (And.intro rfl ?_)) | refine Exists.intro _ (Exists.intro _ (Exists.intro _ (And.intro rfl ?_))) | refine And.intro (cdivW_small (by first | decide | omega) (by first | decide | omega)) ?_ | refine And.intro (.inl (.inl ⟨by omega, by omega⟩)) ?_ | refine And.intro (.inl (.inr ⟨by omega, by omega⟩)) ?_ | refine And.intro ⟨by decide, by decide, by decide⟩ ?_ | refine And.intro (by decide) ?_ | refine And.intro (by omega) ?_ | refine And.intro (by simp only [List.length_cons, List.length_nil]; decide) ?_ | refine And.intro (by simp only [List.length_cons, List.length_nil, List.length_map, List.length_append]; omega) ?_)); (conv => whnf)
        exact q
      | cons a f =>
        (repeat ((conv => whnf); first | refine cnd.yes ?_ | refine cnd.no ?_ | refine cnd.decY (by first | rfl | omega) ?_ | refine cnd.decN (by omega) ?_ | refine cnd.notY (by omega) ?_ | refine cnd.notN (by first | rfl | omega) ?_ | refine cnd.decY (by simp only [List.length_cons, List.length_nil, List.length_map, List.length_append]; omega) ?_ | refine cnd.decN (by simp only [List.length_cons, List.length_nil, List.length_map, List.length_append]; omega) ?_ | refine Exists.intro _ (And.intro atI_zero ?_) | refine Exists.intro _ (And.intro atI_one ?_) | refine Exists.intro _ (And.intro (atI_last _ _) ?_) | refine Exists.intro _ (And.intro (setAt_last _ _ _) ?_) | refine Exists.intro _ (Exists.intro _ (Exists.intro _ (Exists.intro _ (And.intro rfl ?_)))) | refine Exists.intro _ (And.intro rfl ?_) | refine Exists.intro _ (Exists.intro _ (And.intro rfl ?_)) | refine Exists.intro _ (Exists.intro _ (Exists.intro _ (And.intro rfl ?_))) | refine And.intro (cdivW_small (by first | decide | omega) (by first | decide | omega)) ?_ | refine And.intro (.inl (.inl ⟨by omega, by omega⟩)) ?_ | refine And.intro (.inl (.inr ⟨by omega, by omega⟩)) ?_ | refine And.intro ⟨by decide, by decide, by decide⟩ ?_ | refine And.intro (by decide) ?_ | refine And.intro (by omega) ?_ | refine And.intro (by simp only [List.length_cons, List.length_nil]; decide) ?_ | refine And.intro (by simp only [List.length_cons, List.length_nil, List.length_map, List.length_append]; omega) ?_)); (conv => whnf)
        rw [List.length_cons] at h1
        refine lcQ_map g encB (fun b => decide (b.1 < a.1)) (fun b => encB (b.1, min b.2 (a.1 - 1))) (by omega) (fun x hx KK S h1 h2 => ?_) ?_
        · (repeat ((conv => whnf); first | refine cnd.yes ?_ | refine cnd.no ?_ | refine cnd.decY (by first | rfl | omega) ?_ | refine cnd.decN (by omega) ?_ | refine cnd.notY (by omega) ?_ | refine cnd.notN (by first | rfl | omega) ?_ | refine cnd.decY (by simp only [List.length_cons, List.length_nil, List.length_map, List.length_append]; omega) ?_ | refine cnd.decN (by simp only [List.length_cons, List.length_nil, List.length_map, List.length_append]; omega) ?_ | refine Exists.intro _ (And.intro atI_zero ?_) | refine Exists.intro _ (And.intro atI_one ?_) | refine Exists.intro _ (And.intro (atI_last _ _) ?_) | refine Exists.intro _ (And.intro (setAt_last _ _ _) ?_) | refine Exists.intro _ (Exists.intro _ (Exists.intro _ (Exists.intro _ (And.intro rfl ?_)))) | refine Exists.intro _ (And.intro rfl ?_) | refine Exists.intro _ (Exists.intro _ (And.intro rfl ?_)) | refine Exists.intro _ (Exists.intro _ (Exists.intro _ (And.intro rfl ?_))) | refine And.intro (cdivW_small (by first | decide | omega) (by first | decide | omega)) ?_ | refine And.intro (.inl (.inl ⟨by omega, by omega⟩)) ?_ | refine And.intro (.inl (.inr ⟨by omega, by omega⟩)) ?_ | refine And.intro ⟨by decide, by decide, by decide⟩ ?_ | refine And.intro (by decide) ?_ | refine And.intro (by omega) ?_ | refine And.intro (by simp only [List.length_cons, List.length_nil]; decide) ?_ | refine And.intro (by simp only [List.length_cons, List.length_nil, List.length_map, List.length_append]; omega) ?_)); (conv => whnf)
          refine ⟨fun hb => ?_, fun hb => ?_⟩
          · have e : min x.2 (a.1 - 1) = if a.1 - 1 < x.2 then a.1 - 1 else x.2 := by split <;> omega
            have h1 := h1 hb
            rw [e] at h1
            (repeat ((conv => whnf); first | refine cnd.yes ?_ | refine cnd.no ?_ | refine cnd.decY (by first | rfl | omega) ?_ | refine cnd.decN (by omega) ?_ | refine cnd.notY (by omega) ?_ | refine cnd.notN (by first | rfl | omega) ?_ | refine cnd.decY (by simp only [List.length_cons, List.length_nil, List.length_map, List.length_append]; omega) ?_ | refine cnd.decN (by simp only [List.length_cons, List.length_nil, List.length_map, List.length_append]; omega) ?_ | refine Exists.intro _ (And.intro atI_zero ?_) | refine Exists.intro _ (And.intro atI_one ?_) | refine Exists.intro _ (And.intro (atI_last _ _) ?_) | refine Exists.intro _ (And.intro (setAt_last _ _ _) ?_) | refine Exists.intro _ (Exists.intro _ (Exists.intro _ (Exists.intro _ (And.intro rfl ?_)))) | refine Exists.intro _ (And.intro rfl ?_) | refine Exists.intro _ (Exists.intro _ (And.intro rfl ?_)) | refine Exists.intro _ (Exists.intro _ (Exists.intro _ (And.intro rfl ?_))) | refine And.intro (cdivW_small (by first | decide | omega) (by first | decide | omega)) ?_ | refine And.intro (.inl (.inl ⟨by omega, by omega⟩)) ?_ | refine And.intro (.inl (.inr ⟨by omega, by omega⟩)) ?_ | refine And.intro ⟨by decide, by decide, by decide⟩ ?_ | refine And.intro (by decide) ?_ | refine And.intro (by omega) ?_ | refine And.intro (by simp only [List.length_cons, List.length_nil]; decide) ?_ | refine And.intro (by simp only [List.length_cons, List.length_nil, List.length_map, List.length_append]; omega) ?_)); (conv => whnf)
            exact h1
          · exact h2 hb
        · have hf := List.length_filter_le (fun b : Bl => decide (b.1 < a.1)) g
          conv => whnf
          refine ⟨by rw [List.length_map, List.length_map, List.length_cons]; omega, ?_⟩
          conv => whnf
          refine ⟨trunc a.1 g ++ (a :: f), L, ?_, ?_, ?_⟩
          · congr 2
            rw [List.map_append]
            unfold trunc
            rw [List.map_map]
            rfl
          · unfold trunc
            rw [List.length_append, List.length_map, List.length_cons]
            omega
          · (repeat ((conv => whnf); first | refine cnd.yes ?_ | refine cnd.no ?_ | refine cnd.decY (by first | rfl | omega) ?_ | refine cnd.decN (by omega) ?_ | refine cnd.notY (by omega) ?_ | refine cnd.notN (by first | rfl | omega) ?_ | refine cnd.decY (by simp only [List.length_cons, List.length_nil, List.length_map, List.length_append]; omega) ?_ | refine cnd.decN (by simp only [List.length_cons, List.length_nil, List.length_map, List.length_append]; omega) ?_ | refine Exists.intro _ (And.intro atI_zero ?_) | refine Exists.intro _ (And.intro atI_one ?_) | refine Exists.intro _ (And.intro (atI_last _ _) ?_) | refine Exists.intro _ (And.intro (setAt_last _ _ _) ?_) | refine Exists.intro _ (Exists.intro _ (Exists.intro _ (Exists.intro _ (And.intro rfl ?_)))) | refine Exists.intro _ (And.intro rfl ?_) | refine Exists.intro _ (Exists.intro _ (And.intro rfl ?_)) | refine Exists.intro _ (Exists.intro _ (Exists.intro _ (And.intro rfl ?_))) | refine And.intro (cdivW_small (by first | decide | omega) (by first | decide | omega)) ?_ | refine And.intro (.inl (.inl ⟨by omega, by omega⟩)) ?_ | refine And.intro (.inl (.inr ⟨by omega, by omega⟩)) ?_ | refine And.intro ⟨by decide, by decide, by decide⟩ ?_ | refine And.intro (by decide) ?_ | refine And.intro (by omega) ?_ | refine And.intro (by simp only [List.length_cons, List.length_nil]; decide) ?_ | refine And.intro (by simp only [List.length_cons, List.length_nil, List.length_map, List.length_append]; omega) ?_)); (conv => whnf)
            exact q

/-! ### the law's own records and blocks -/
theorem okN_ints (ns : List Int) (h : ns.length ≤ 16000000) : okN 2 (.list (ns.map PyData.int)) := ⟨by rw [List.length_map]; exact h, fun d hd => by
  obtain ⟨n, _, rfl⟩ := List.mem_map.mp hd
  exact trivial⟩
theorem okN_intsT (ns : List Int) (h : ns.length ≤ 16000000) : okN 2 (encI ns) := ⟨by rw [List.length_map]; exact h, fun d hd => by
  obtain ⟨n, _, rfl⟩ := List.mem_map.mp hd
  exact trivial⟩
theorem okN_nil : okN 1 (.list []) := ⟨(by decide : 0 ≤ 16000000), fun d hd => by cases hd⟩
theorem okN_nilT : okN 1 (.tuple []) := ⟨(by decide : 0 ≤ 16000000), fun d hd => by cases hd⟩
theorem okN_Bs (bs : List Bl) (h : bs.length ≤ 16000000) : okN 3 (.list (bs.map encB)) := ⟨by rw [List.length_map]; exact h, fun d hd => by
  obtain ⟨n, _, rfl⟩ := List.mem_map.mp hd
  exact okT_ok (okT_B n)⟩
theorem shaped_nil : SeqAt.shaped (.list []) = true := shaped_of okN_nil (by decide)
theorem shaped_nilT : SeqAt.shaped (.tuple []) = true := shaped_of okN_nilT (by decide)
def Φ__law_tops : PhiP := fun ds Q => ∃ r : List Int, ds = [encI r] ∧ r.length ≤ 1000 ∧ Q (encI (recs r))
theorem m__law_tops : ∀ {ds : List PD} {Q Q' : PD → Prop}, (∀ d, Q d → Q' d) → Φ__law_tops ds Q → Φ__law_tops ds Q' := fun h ⟨i, l, e, q⟩ => ⟨i, l, e, h _ q⟩
theorem l__law_tops : ∀ ds Q, Φ__law_tops ds Q → ds.length = 1 := fun ds Q ⟨i, l, e, _⟩ => by rw [l]; rfl
theorem at__law_tops (T : Tp K mg) : FnAt P w K mg base "_law_tops" 1 (spP K Φ__law_tops) := by
  obtain ⟨f, fd, F, hm, hb⟩ := T.d__law_tops
  refine ⟨f, fd, ["way"], fn_p F sc__law_tops l__law_tops fun cdv A outer s H E hr => ⟨_, (dss_cons (ds_set true 1 sc__law_tops.nd (de_lst da_nil))
    (dss_cons (ds_for PassesOwn.never rfl (di_exp (de_var 0)) (dg_n 2 sc__law_tops.nd) (dss_one (ds_if (dt_w (dw_or (dt_cmp (hu65 hr) (de_var 1) (de_lst da_nil)) (dw_or1 (dt_cmp (hu65 hr) (de_var 2) (de_ix (de_var 1) (de_neg de_int)))))) (dss_one (ds_app 1 (de_var 2))) dss_nil)))
    (dss_one (ds_ret (de_callTy tuple_ok tupleW_m T.tuple b_tuple (de_var 1)))))), fun ds Q h => ?_⟩, hm, F.kp, hb⟩
  obtain ⟨r, rfl, hl, q⟩ := h
  (repeat ((conv => whnf); first | refine cnd.yes ?_ | refine cnd.no ?_ | refine cnd.decY (by first | rfl | omega) ?_ | refine cnd.decN (by omega) ?_ | refine cnd.notY (by omega) ?_ | refine cnd.notN (by first | rfl | omega) ?_ | refine cnd.decY (by simp only [List.length_cons, List.length_nil, List.length_map, List.length_append]; omega) ?_ | refine cnd.decN (by simp only [List.length_cons, List.length_nil, List.length_map, List.length_append]; omega) ?_ | refine Exists.intro _ (And.intro atI_zero ?_) | refine Exists.intro _ (And.intro atI_one ?_) | refine Exists.intro _ (And.intro (atI_last _ _) ?_) | refine Exists.intro _ (And.intro (setAt_last _ _ _) ?_) | refine Exists.intro _ (Exists.intro _ (Exists.intro _ (Exists.intro _ (And.intro rfl ?_)))) | refine Exists.intro _ (And.intro rfl ?_) | refine Exists.intro _ (Exists.intro _ (And.intro rfl ?_)) | refine Exists.intro _ (Exists.intro _ (Exists.intro _ (And.intro rfl ?_))) | refine And.intro (cdivW_small (by first | decide | omega) (by first | decide | omega)) ?_ | refine And.intro (.inl (.inl ⟨by omega, by omega⟩)) ?_ | refine And.intro (.inl (.inr ⟨by omega, by omega⟩)) ?_ | refine And.intro ⟨by decide, by decide, by decide⟩ ?_ | refine And.intro (by decide) ?_ | refine And.intro (by omega) ?_ | refine And.intro (by simp only [List.length_cons, List.length_nil]; decide) ?_ | refine And.intro (by simp only [List.length_cons, List.length_nil, List.length_map, List.length_append]; omega) ?_)); (conv => whnf)
  refine forQ.by r PyData.int (fun pre ρ => ∃ s2, ρ = [.pub (encI r), .lst ((recs pre).map PyData.int), s2]) ⟨_, rfl⟩ ?_ ?_
  · rintro pre x ρ2 ⟨post, e⟩ ⟨s2, rfl⟩
    have hpre := recs_len pre
    rw [e, List.length_append] at hl
    rw [recs_snoc]
    (repeat ((conv => whnf); first | refine cnd.yes ?_ | refine cnd.no ?_ | refine cnd.decY (by first | rfl | omega) ?_ | refine cnd.decN (by omega) ?_ | refine cnd.notY (by omega) ?_ | refine cnd.notN (by first | rfl | omega) ?_ | refine cnd.decY (by simp only [List.length_cons, List.length_nil, List.length_map, List.length_append]; omega) ?_ | refine cnd.decN (by simp only [List.length_cons, List.length_nil, List.length_map, List.length_append]; omega) ?_ | refine Exists.intro _ (And.intro atI_zero ?_) | refine Exists.intro _ (And.intro atI_one ?_) | refine Exists.intro _ (And.intro (atI_last _ _) ?_) | refine Exists.intro _ (And.intro (setAt_last _ _ _) ?_) | refine Exists.intro _ (Exists.intro _ (Exists.intro _ (Exists.intro _ (And.intro rfl ?_)))) | refine Exists.intro _ (And.intro rfl ?_) | refine Exists.intro _ (Exists.intro _ (And.intro rfl ?_)) | refine Exists.intro _ (Exists.intro _ (Exists.intro _ (And.intro rfl ?_))) | refine And.intro (cdivW_small (by first | decide | omega) (by first | decide | omega)) ?_ | refine And.intro (.inl (.inl ⟨by omega, by omega⟩)) ?_ | refine And.intro (.inl (.inr ⟨by omega, by omega⟩)) ?_ | refine And.intro ⟨by decide, by decide, by decide⟩ ?_ | refine And.intro (by decide) ?_ | refine And.intro (by omega) ?_ | refine And.intro (by simp only [List.length_cons, List.length_nil]; decide) ?_ | refine And.intro (by simp only [List.length_cons, List.length_nil, List.length_map, List.length_append]; omega) ?_)); (conv => whnf)
    refine ⟨⟨shaped_of (okN_ints _ (by omega)) (by decide), shaped_nil⟩, ?_⟩
    rw [eqv_listNil]
    rcases snoc_cases (recs pre) with hz | ⟨f, l, hz⟩
    · rw [hz]
      (repeat ((conv => whnf); first | refine cnd.yes ?_ | refine cnd.no ?_ | refine cnd.decY (by first | rfl | omega) ?_ | refine cnd.decN (by omega) ?_ | refine cnd.notY (by omega) ?_ | refine cnd.notN (by first | rfl | omega) ?_ | refine cnd.decY (by simp only [List.length_cons, List.length_nil, List.length_map, List.length_append]; omega) ?_ | refine cnd.decN (by simp only [List.length_cons, List.length_nil, List.length_map, List.length_append]; omega) ?_ | refine Exists.intro _ (And.intro atI_zero ?_) | refine Exists.intro _ (And.intro atI_one ?_) | refine Exists.intro _ (And.intro (atI_last _ _) ?_) | refine Exists.intro _ (And.intro (setAt_last _ _ _) ?_) | refine Exists.intro _ (Exists.intro _ (Exists.intro _ (Exists.intro _ (And.intro rfl ?_)))) | refine Exists.intro _ (And.intro rfl ?_) | refine Exists.intro _ (Exists.intro _ (And.intro rfl ?_)) | refine Exists.intro _ (Exists.intro _ (Exists.intro _ (And.intro rfl ?_))) | refine And.intro (cdivW_small (by first | decide | omega) (by first | decide | omega)) ?_ | refine And.intro (.inl (.inl ⟨by omega, by omega⟩)) ?_ | refine And.intro (.inl (.inr ⟨by omega, by omega⟩)) ?_ | refine And.intro ⟨by decide, by decide, by decide⟩ ?_ | refine And.intro (by decide) ?_ | refine And.intro (by omega) ?_ | refine And.intro (by simp only [List.length_cons, List.length_nil]; decide) ?_ | refine And.intro (by simp only [List.length_cons, List.length_nil, List.length_map, List.length_append]; omega) ?_)); (conv => whnf)
      exact ⟨_, rfl⟩
    · rw [hz, recStp_snoc, getLast_map]
      rw [hz, List.length_append, List.length_singleton] at hpre
      rw [show (f.map PyData.int ++ [PyData.int l]).isEmpty = false from by simp]
      (repeat ((conv => whnf); first | refine cnd.yes ?_ | refine cnd.no ?_ | refine cnd.decY (by first | rfl | omega) ?_ | refine cnd.decN (by omega) ?_ | refine cnd.notY (by omega) ?_ | refine cnd.notN (by first | rfl | omega) ?_ | refine cnd.decY (by simp only [List.length_cons, List.length_nil, List.length_map, List.length_append]; omega) ?_ | refine cnd.decN (by simp only [List.length_cons, List.length_nil, List.length_map, List.length_append]; omega) ?_ | refine Exists.intro _ (And.intro atI_zero ?_) | refine Exists.intro _ (And.intro atI_one ?_) | refine Exists.intro _ (And.intro (atI_last _ _) ?_) | refine Exists.intro _ (And.intro (setAt_last _ _ _) ?_) | refine Exists.intro _ (Exists.intro _ (Exists.intro _ (Exists.intro _ (And.intro rfl ?_)))) | refine Exists.intro _ (And.intro rfl ?_) | refine Exists.intro _ (Exists.intro _ (And.intro rfl ?_)) | refine Exists.intro _ (Exists.intro _ (Exists.intro _ (And.intro rfl ?_))) | refine And.intro (cdivW_small (by first | decide | omega) (by first | decide | omega)) ?_ | refine And.intro (.inl (.inl ⟨by omega, by omega⟩)) ?_ | refine And.intro (.inl (.inr ⟨by omega, by omega⟩)) ?_ | refine And.intro ⟨by decide, by decide, by decide⟩ ?_ | refine And.intro (by decide) ?_ | refine And.intro (by omega) ?_ | refine And.intro (by simp only [List.length_cons, List.length_nil]; decide) ?_ | refine And.intro (by simp only [List.length_cons, List.length_nil, List.length_map, List.length_append]; omega) ?_)); (conv => whnf)
      refine .dec (fun hx => ?_) fun hx => ?_
      · rw [if_pos hx]
        (repeat ((conv => whnf); first | refine cnd.yes ?_ | refine cnd.no ?_ | refine cnd.decY (by first | rfl | omega) ?_ | refine cnd.decN (by omega) ?_ | refine cnd.notY (by omega) ?_ | refine cnd.notN (by first | rfl | omega) ?_ | refine cnd.decY (by simp only [List.length_cons, List.length_nil, List.length_map, List.length_append]; omega) ?_ | refine cnd.decN (by simp only [List.length_cons, List.length_nil, List.length_map, List.length_append]; omega) ?_ | refine Exists.intro _ (And.intro atI_zero ?_) | refine Exists.intro _ (And.intro atI_one ?_) | refine Exists.intro _ (And.intro (atI_last _ _) ?_) | refine Exists.intro _ (And.intro (setAt_last _ _ _) ?_) | refine Exists.intro _ (Exists.intro _ (Exists.intro _ (Exists.intro _ (And.intro rfl ?_)))) | refine Exists.intro _ (And.intro rfl ?_) | refine Exists.intro _ (Exists.intro _ (And.intro rfl ?_)) | refine Exists.intro _ (Exists.intro _ (Exists.intro _ (And.intro rfl ?_))) | refine And.intro (cdivW_small (by first | decide | omega) (by first | decide | omega)) ?_ | refine And.intro (.inl (.inl ⟨by omega, by omega⟩)) ?_ | refine And.intro (.inl (.inr ⟨by omega, by omega⟩)) ?_ | refine And.intro ⟨by decide, by decide, by decide⟩ ?_ | refine And.intro (by decide) ?_ | refine And.intro (by omega) ?_ | refine And.intro (by simp only [List.length_cons, List.length_nil]; decide) ?_ | refine And.intro (by simp only [List.length_cons, List.length_nil, List.length_map, List.length_append]; omega) ?_)); (conv => whnf)
        exact ⟨.pub (.int x), by rw [getLast_map, getLast_map]; rfl⟩
      · rw [if_neg hx]
        (repeat ((conv => whnf); first | refine cnd.yes ?_ | refine cnd.no ?_ | refine cnd.decY (by first | rfl | omega) ?_ | refine cnd.decN (by omega) ?_ | refine cnd.notY (by omega) ?_ | refine cnd.notN (by first | rfl | omega) ?_ | refine cnd.decY (by simp only [List.length_cons, List.length_nil, List.length_map, List.length_append]; omega) ?_ | refine cnd.decN (by simp only [List.length_cons, List.length_nil, List.length_map, List.length_append]; omega) ?_ | refine Exists.intro _ (And.intro atI_zero ?_) | refine Exists.intro _ (And.intro atI_one ?_) | refine Exists.intro _ (And.intro (atI_last _ _) ?_) | refine Exists.intro _ (And.intro (setAt_last _ _ _) ?_) | refine Exists.intro _ (Exists.intro _ (Exists.intro _ (Exists.intro _ (And.intro rfl ?_)))) | refine Exists.intro _ (And.intro rfl ?_) | refine Exists.intro _ (Exists.intro _ (And.intro rfl ?_)) | refine Exists.intro _ (Exists.intro _ (Exists.intro _ (And.intro rfl ?_))) | refine And.intro (cdivW_small (by first | decide | omega) (by first | decide | omega)) ?_ | refine And.intro (.inl (.inl ⟨by omega, by omega⟩)) ?_ | refine And.intro (.inl (.inr ⟨by omega, by omega⟩)) ?_ | refine And.intro ⟨by decide, by decide, by decide⟩ ?_ | refine And.intro (by decide) ?_ | refine And.intro (by omega) ?_ | refine And.intro (by simp only [List.length_cons, List.length_nil]; decide) ?_ | refine And.intro (by simp only [List.length_cons, List.length_nil, List.length_map, List.length_append]; omega) ?_)); (conv => whnf)
        exact ⟨.pub (.int x), by rw [getLast_map]; rfl⟩
  · rintro ρ2 ⟨s2, rfl⟩
    (repeat ((conv => whnf); first | refine cnd.yes ?_ | refine cnd.no ?_ | refine cnd.decY (by first | rfl | omega) ?_ | refine cnd.decN (by omega) ?_ | refine cnd.notY (by omega) ?_ | refine cnd.notN (by first | rfl | omega) ?_ | refine cnd.decY (by simp only [List.length_cons, List.length_nil, List.length_map, List.length_append]; omega) ?_ | refine cnd.decN (by simp only [List.length_cons, List.length_nil, List.length_map, List.length_append]; omega) ?_ | refine Exists.intro _ (And.intro atI_zero ?_) | refine Exists.intro _ (And.intro atI_one ?_) | refine Exists.intro _ (And.intro (atI_last _ _) ?_) | refine Exists.intro _ (And.intro (setAt_last _ _ _) ?_) | refine Exists.intro _ (Exists.intro _ (Exists.intro _ (Exists.intro _ (And.intro rfl ?_)))) | refine Exists.intro _ (And.intro rfl ?_) | refine Exists.intro _ (Exists.intro _ (And.intro rfl ?_)) | refine Exists.intro _ (Exists.intro _ (Exists.intro _ (And.intro rfl ?_))) | refine And.intro (cdivW_small (by first | decide | omega) (by first | decide | omega)) ?_ | refine And.intro (.inl (.inl ⟨by omega, by omega⟩)) ?_ | refine And.intro (.inl (.inr ⟨by omega, by omega⟩)) ?_ | refine And.intro ⟨by decide, by decide, by decide⟩ ?_ | refine And.intro (by decide) ?_ | refine And.intro (by omega) ?_ | refine And.intro (by simp only [List.length_cons, List.length_nil]; decide) ?_ | refine And.intro (by simp only [List.length_cons, List.length_nil, List.length_map, List.length_append]; omega) ?_)); (conv => whnf)
    exact q
def Φ__law_blocks : PhiP := fun ds Q => ∃ (r : List Int) (L : Int), ds = [encI r, .int L] ∧ r.length ≤ 1000 ∧ Q (encF (fillF L r))
theorem m__law_blocks : ∀ {ds : List PD} {Q Q' : PD → Prop}, (∀ d, Q d → Q' d) → Φ__law_blocks ds Q → Φ__law_blocks ds Q' := fun h ⟨i, l, e, b, q⟩ => ⟨i, l, e, b, h _ q⟩
theorem l__law_blocks : ∀ ds Q, Φ__law_blocks ds Q → ds.length = 2 := fun ds Q ⟨i, l, e, _⟩ => by rw [e]; rfl
theorem at__law_blocks (T : Tp K mg) : FnAt P w K mg base "_law_blocks" 2 (spP K Φ__law_blocks) := by
  obtain ⟨f, fd, F, hm, hb⟩ := T.d__law_blocks
  refine ⟨f, fd, ["way", "low"], fn_p F sc__law_blocks l__law_blocks fun cdv A outer s H E hr => ⟨_, (dss_cons (ds_set false 2 sc__law_blocks.nd (de_call (at__law_tops T) hr m__law_tops (da_cons (de_var 0) da_nil)))
    (dss_consC (ds_if (dt_w (dw_and (dt_cmp (hu65 hr) (de_var 2) (de_tup da_nil)) (dw_and1 (dt_cmp (hu65 hr) (de_ix (de_var 2) (de_neg de_int)) (de_bin de_int (de_var 1)))))) (dss_one (ds_ret de_non)) dss_nil)
    (dss_cons (ds_set true 3 sc__law_blocks.nd (de_lst da_nil))
    (dss_cons (ds_for PassesOwn.never rfl (di_exp (de_revT (de_var 2))) (dg_n 4 sc__law_blocks.nd) (dss_one (ds_if (dt_w (dw_and (dt_cmp (hu65 hr) (de_var 3) (de_lst da_nil)) (dw_and1 (dt_cmp (hu65 hr) (de_bin (de_var 4) (de_ix (de_ix (de_var 3) (de_neg de_int)) de_int)) (de_var 1))))) (dss_one (ds_setIx 3 (de_tup (da_cons (de_ix (de_ix (de_var 3) (de_neg de_int)) de_int) (da_cons (de_var 4) da_nil))) (de_neg de_int))) (dss_one (ds_app 3 (de_tup (da_cons (de_var 4) (da_cons (de_var 4) da_nil))))))))
    (dss_one (ds_ret (de_callTy tuple_ok tupleW_m T.tuple b_tuple (de_var 3)))))))), fun ds Q h => ?_⟩, hm, F.kp, hb⟩
  obtain ⟨r, L, rfl, hl, q⟩ := h
  have hrl := recs_len r
  unfold fillF at q
  (repeat ((conv => whnf); first | refine cnd.yes ?_ | refine cnd.no ?_ | refine cnd.decY (by first | rfl | omega) ?_ | refine cnd.decN (by omega) ?_ | refine cnd.notY (by omega) ?_ | refine cnd.notN (by first | rfl | omega) ?_ | refine cnd.decY (by simp only [List.length_cons, List.length_nil, List.length_map, List.length_append]; omega) ?_ | refine cnd.decN (by simp only [List.length_cons, List.length_nil, List.length_map, List.length_append]; omega) ?_ | refine Exists.intro _ (And.intro atI_zero ?_) | refine Exists.intro _ (And.intro atI_one ?_) | refine Exists.intro _ (And.intro (atI_last _ _) ?_) | refine Exists.intro _ (And.intro (setAt_last _ _ _) ?_) | refine Exists.intro _ (Exists.intro _ (Exists.intro _ (Exists.intro _ (And.intro rfl ?_)))) | refine Exists.intro _ (And.intro rfl ?_) | refine Exists.intro _ (Exists.intro _ (And.intro rfl ?_)) | refine Exists.intro _ (Exists.intro _ (Exists.intro _ (And.intro rfl ?_))) | refine And.intro (cdivW_small (by first | decide | omega) (by first | decide | omega)) ?_ | refine And.intro (.inl (.inl ⟨by omega, by omega⟩)) ?_ | refine And.intro (.inl (.inr ⟨by omega, by omega⟩)) ?_ | refine And.intro ⟨by decide, by decide, by decide⟩ ?_ | refine And.intro (by decide) ?_ | refine And.intro (by omega) ?_ | refine And.intro (by simp only [List.length_cons, List.length_nil]; decide) ?_ | refine And.intro (by simp only [List.length_cons, List.length_nil, List.length_map, List.length_append]; omega) ?_)); (conv => whnf)
  refine ⟨fun ρ => lone L r = false ∧ ρ = [.pub (encI r), .pub (.int L), .pub (encI (recs r)), .no, .no], ?_, ?_⟩
  · (repeat ((conv => whnf); first | refine cnd.yes ?_ | refine cnd.no ?_ | refine cnd.decY (by first | rfl | omega) ?_ | refine cnd.decN (by omega) ?_ | refine cnd.notY (by omega) ?_ | refine cnd.notN (by first | rfl | omega) ?_ | refine cnd.decY (by simp only [List.length_cons, List.length_nil, List.length_map, List.length_append]; omega) ?_ | refine cnd.decN (by simp only [List.length_cons, List.length_nil, List.length_map, List.length_append]; omega) ?_ | refine Exists.intro _ (And.intro atI_zero ?_) | refine Exists.intro _ (And.intro atI_one ?_) | refine Exists.intro _ (And.intro (atI_last _ _) ?_) | refine Exists.intro _ (And.intro (setAt_last _ _ _) ?_) | refine Exists.intro _ (Exists.intro _ (Exists.intro _ (Exists.intro _ (And.intro rfl ?_)))) | refine Exists.intro _ (And.intro rfl ?_) | refine Exists.intro _ (Exists.intro _ (And.intro rfl ?_)) | refine Exists.intro _ (Exists.intro _ (Exists.intro _ (And.intro rfl ?_))) | refine And.intro (cdivW_small (by first | decide | omega) (by first | decide | omega)) ?_ | refine And.intro (.inl (.inl ⟨by omega, by omega⟩)) ?_ | refine And.intro (.inl (.inr ⟨by omega, by omega⟩)) ?_ | refine And.intro ⟨by decide, by decide, by decide⟩ ?_ | refine And.intro (by decide) ?_ | refine And.intro (by omega) ?_ | refine And.intro (by simp only [List.length_cons, List.length_nil]; decide) ?_ | refine And.intro (by simp only [List.length_cons, List.length_nil, List.length_map, List.length_append]; omega) ?_)); (conv => whnf)
    refine ⟨⟨shaped_of (okN_intsT _ (by omega)) (by decide), shaped_nilT⟩, ?_⟩
    rw [show encI (recs r) = .tuple ((recs r).map PyData.int) from rfl, eqv_tupNil]
    rcases snoc_cases (recs r) with hz | ⟨f, l, hz⟩
    · rw [hz]
      (repeat ((conv => whnf); first | refine cnd.yes ?_ | refine cnd.no ?_ | refine cnd.decY (by first | rfl | omega) ?_ | refine cnd.decN (by omega) ?_ | refine cnd.notY (by omega) ?_ | refine cnd.notN (by first | rfl | omega) ?_ | refine cnd.decY (by simp only [List.length_cons, List.length_nil, List.length_map, List.length_append]; omega) ?_ | refine cnd.decN (by simp only [List.length_cons, List.length_nil, List.length_map, List.length_append]; omega) ?_ | refine Exists.intro _ (And.intro atI_zero ?_) | refine Exists.intro _ (And.intro atI_one ?_) | refine Exists.intro _ (And.intro (atI_last _ _) ?_) | refine Exists.intro _ (And.intro (setAt_last _ _ _) ?_) | refine Exists.intro _ (Exists.intro _ (Exists.intro _ (Exists.intro _ (And.intro rfl ?_)))) | refine Exists.intro _ (And.intro rfl ?_) | refine Exists.intro _ (Exists.intro _ (And.intro rfl ?_)) | refine Exists.intro _ (Exists.intro _ (Exists.intro _ (And.intro rfl ?_))) | refine And.intro (cdivW_small (by first | decide | omega) (by first | decide | omega)) ?_ | refine And.intro (.inl (.inl ⟨by omega, by omega⟩)) ?_ | refine And.intro (.inl (.inr ⟨by omega, by omega⟩)) ?_ | refine And.intro ⟨by decide, by decide, by decide⟩ ?_ | refine And.intro (by decide) ?_ | refine And.intro (by omega) ?_ | refine And.intro (by simp only [List.length_cons, List.length_nil]; decide) ?_ | refine And.intro (by simp only [List.length_cons, List.length_nil, List.length_map, List.length_append]; omega) ?_)); (conv => whnf)
      exact ⟨lone_nil hz, rfl⟩
    · have hlone := lone_last (L := L) hz
      rw [hz, show (List.map PyData.int (f ++ [l])).isEmpty = false from by simp]
      conv => whnf
      refine .yes ?_
      conv => whnf
      refine ⟨.int l, ?_, ?_⟩
      · rw [getLast_map]; exact atI_last _ _
      (repeat ((conv => whnf); first | refine cnd.yes ?_ | refine cnd.no ?_ | refine cnd.decY (by first | rfl | omega) ?_ | refine cnd.decN (by omega) ?_ | refine cnd.notY (by omega) ?_ | refine cnd.notN (by first | rfl | omega) ?_ | refine cnd.decY (by simp only [List.length_cons, List.length_nil, List.length_map, List.length_append]; omega) ?_ | refine cnd.decN (by simp only [List.length_cons, List.length_nil, List.length_map, List.length_append]; omega) ?_ | refine Exists.intro _ (And.intro atI_zero ?_) | refine Exists.intro _ (And.intro atI_one ?_) | refine Exists.intro _ (And.intro (atI_last _ _) ?_) | refine Exists.intro _ (And.intro (setAt_last _ _ _) ?_) | refine Exists.intro _ (Exists.intro _ (Exists.intro _ (Exists.intro _ (And.intro rfl ?_)))) | refine Exists.intro _ (And.intro rfl ?_) | refine Exists.intro _ (Exists.intro _ (And.intro rfl ?_)) | refine Exists.intro _ (Exists.intro _ (Exists.intro _ (And.intro rfl ?_))) | refine And.intro (cdivW_small (by first | decide | omega) (by first | decide | omega)) ?_ | refine And.intro (.inl (.inl ⟨by omega, by omega⟩)) ?_ | refine And.intro (.inl (.inr ⟨by omega, by omega⟩)) ?_ | refine And.intro ⟨by decide, by decide, by decide⟩ ?_ | refine And.intro (by decide) ?_ | refine And.intro (by omega) ?_ | refine And.intro (by simp only [List.length_cons, List.length_nil]; decide) ?_ | refine And.intro (by simp only [List.length_cons, List.length_nil, List.length_map, List.length_append]; omega) ?_)); (conv => whnf)
      refine .dec (fun hx => ?_) fun hx => ?_
      · rw [hlone, decide_eq_true hx] at q
        (repeat ((conv => whnf); first | refine cnd.yes ?_ | refine cnd.no ?_ | refine cnd.decY (by first | rfl | omega) ?_ | refine cnd.decN (by omega) ?_ | refine cnd.notY (by omega) ?_ | refine cnd.notN (by first | rfl | omega) ?_ | refine cnd.decY (by simp only [List.length_cons, List.length_nil, List.length_map, List.length_append]; omega) ?_ | refine cnd.decN (by simp only [List.length_cons, List.length_nil, List.length_map, List.length_append]; omega) ?_ | refine Exists.intro _ (And.intro atI_zero ?_) | refine Exists.intro _ (And.intro atI_one ?_) | refine Exists.intro _ (And.intro (atI_last _ _) ?_) | refine Exists.intro _ (And.intro (setAt_last _ _ _) ?_) | refine Exists.intro _ (Exists.intro _ (Exists.intro _ (Exists.intro _ (And.intro rfl ?_)))) | refine Exists.intro _ (And.intro rfl ?_) | refine Exists.intro _ (Exists.intro _ (And.intro rfl ?_)) | refine Exists.intro _ (Exists.intro _ (Exists.intro _ (And.intro rfl ?_))) | refine And.intro (cdivW_small (by first | decide | omega) (by first | decide | omega)) ?_ | refine And.intro (.inl (.inl ⟨by omega, by omega⟩)) ?_ | refine And.intro (.inl (.inr ⟨by omega, by omega⟩)) ?_ | refine And.intro ⟨by decide, by decide, by decide⟩ ?_ | refine And.intro (by decide) ?_ | refine And.intro (by omega) ?_ | refine And.intro (by simp only [List.length_cons, List.length_nil]; decide) ?_ | refine And.intro (by simp only [List.length_cons, List.length_nil, List.length_map, List.length_append]; omega) ?_)); (conv => whnf)
        exact q
      · (repeat ((conv => whnf); first | refine cnd.yes ?_ | refine cnd.no ?_ | refine cnd.decY (by first | rfl | omega) ?_ | refine cnd.decN (by omega) ?_ | refine cnd.notY (by omega) ?_ | refine cnd.notN (by first | rfl | omega) ?_ | refine cnd.decY (by simp only [List.length_cons, List.length_nil, List.length_map, List.length_append]; omega) ?_ | refine cnd.decN (by simp only [List.length_cons, List.length_nil, List.length_map, List.length_append]; omega) ?_ | refine Exists.intro _ (And.intro atI_zero ?_) | refine Exists.intro _ (And.intro atI_one ?_) | refine Exists.intro _ (And.intro (atI_last _ _) ?_) | refine Exists.intro _ (And.intro (setAt_last _ _ _) ?_) | refine Exists.intro _ (Exists.intro _ (Exists.intro _ (Exists.intro _ (And.intro rfl ?_)))) | refine Exists.intro _ (And.intro rfl ?_) | refine Exists.intro _ (Exists.intro _ (And.intro rfl ?_)) | refine Exists.intro _ (Exists.intro _ (Exists.intro _ (And.intro rfl ?_))) | refine And.intro (cdivW_small (by first | decide | omega) (by first | decide | omega)) ?_ | refine And.intro (.inl (.inl ⟨by omega, by omega⟩)) ?_ | refine And.intro (.inl (.inr ⟨by omega, by omega⟩)) ?_ | refine And.intro ⟨by decide, by decide, by decide⟩ ?_ | refine And.intro (by decide) ?_ | refine And.intro (by omega) ?_ | refine And.intro (by simp only [List.length_cons, List.length_nil]; decide) ?_ | refine And.intro (by simp only [List.length_cons, List.length_nil, List.length_map, List.length_append]; omega) ?_)); (conv => whnf)
        exact ⟨by rw [hlone, decide_eq_false hx], rfl⟩
  · rintro ρ ⟨hlone, rfl⟩
    rw [hlone] at q
    (repeat ((conv => whnf); first | refine cnd.yes ?_ | refine cnd.no ?_ | refine cnd.decY (by first | rfl | omega) ?_ | refine cnd.decN (by omega) ?_ | refine cnd.notY (by omega) ?_ | refine cnd.notN (by first | rfl | omega) ?_ | refine cnd.decY (by simp only [List.length_cons, List.length_nil, List.length_map, List.length_append]; omega) ?_ | refine cnd.decN (by simp only [List.length_cons, List.length_nil, List.length_map, List.length_append]; omega) ?_ | refine Exists.intro _ (And.intro atI_zero ?_) | refine Exists.intro _ (And.intro atI_one ?_) | refine Exists.intro _ (And.intro (atI_last _ _) ?_) | refine Exists.intro _ (And.intro (setAt_last _ _ _) ?_) | refine Exists.intro _ (Exists.intro _ (Exists.intro _ (Exists.intro _ (And.intro rfl ?_)))) | refine Exists.intro _ (And.intro rfl ?_) | refine Exists.intro _ (Exists.intro _ (And.intro rfl ?_)) | refine Exists.intro _ (Exists.intro _ (Exists.intro _ (And.intro rfl ?_))) | refine And.intro (cdivW_small (by first | decide | omega) (by first | decide | omega)) ?_ | refine And.intro (.inl (.inl ⟨by omega, by omega⟩)) ?_ | refine And.intro (.inl (.inr ⟨by omega, by omega⟩)) ?_ | refine And.intro ⟨by decide, by decide, by decide⟩ ?_ | refine And.intro (by decide) ?_ | refine And.intro (by omega) ?_ | refine And.intro (by simp only [List.length_cons, List.length_nil]; decide) ?_ | refine And.intro (by simp only [List.length_cons, List.length_nil, List.length_map, List.length_append]; omega) ?_)); (conv => whnf)
    rw [show ((recs r).map PyData.int).reverse = (asc r).map PyData.int from by unfold asc; rw [List.map_reverse]]
    have ha : (asc r).length ≤ 1000 := by unfold asc; rw [List.length_reverse]; omega
    refine forQ.by (asc r) PyData.int (fun pre ρ => ∃ s4, ρ = [.pub (encI r), .pub (.int L), .pub (encI (recs r)), .lst ((J L pre).map encB), s4]) ⟨_, rfl⟩ ?_ ?_
    · rintro pre x ρ2 ⟨post, e⟩ ⟨s4, rfl⟩
      have hpre := join_len (L := L) (pts pre)
      have hpl : (pts pre).length = pre.length := by unfold pts; rw [List.length_map]
      have hJ : J L pre = joinL L (pts pre) := rfl
      rw [← hJ, hpl] at hpre
      rw [e, List.length_append] at ha
      rw [J_snoc]
      (repeat ((conv => whnf); first | refine cnd.yes ?_ | refine cnd.no ?_ | refine cnd.decY (by first | rfl | omega) ?_ | refine cnd.decN (by omega) ?_ | refine cnd.notY (by omega) ?_ | refine cnd.notN (by first | rfl | omega) ?_ | refine cnd.decY (by simp only [List.length_cons, List.length_nil, List.length_map, List.length_append]; omega) ?_ | refine cnd.decN (by simp only [List.length_cons, List.length_nil, List.length_map, List.length_append]; omega) ?_ | refine Exists.intro _ (And.intro atI_zero ?_) | refine Exists.intro _ (And.intro atI_one ?_) | refine Exists.intro _ (And.intro (atI_last _ _) ?_) | refine Exists.intro _ (And.intro (setAt_last _ _ _) ?_) | refine Exists.intro _ (Exists.intro _ (Exists.intro _ (Exists.intro _ (And.intro rfl ?_)))) | refine Exists.intro _ (And.intro rfl ?_) | refine Exists.intro _ (Exists.intro _ (And.intro rfl ?_)) | refine Exists.intro _ (Exists.intro _ (Exists.intro _ (And.intro rfl ?_))) | refine And.intro (cdivW_small (by first | decide | omega) (by first | decide | omega)) ?_ | refine And.intro (.inl (.inl ⟨by omega, by omega⟩)) ?_ | refine And.intro (.inl (.inr ⟨by omega, by omega⟩)) ?_ | refine And.intro ⟨by decide, by decide, by decide⟩ ?_ | refine And.intro (by decide) ?_ | refine And.intro (by omega) ?_ | refine And.intro (by simp only [List.length_cons, List.length_nil]; decide) ?_ | refine And.intro (by simp only [List.length_cons, List.length_nil, List.length_map, List.length_append]; omega) ?_)); (conv => whnf)
      refine ⟨⟨shaped_of (okN_Bs _ (by omega)) (by decide), shaped_nil⟩, ?_⟩
      rw [eqv_listNil]
      rcases snoc_cases (J L pre) with hz | ⟨f, l, hz⟩
      · rw [hz]
        (repeat ((conv => whnf); first | refine cnd.yes ?_ | refine cnd.no ?_ | refine cnd.decY (by first | rfl | omega) ?_ | refine cnd.decN (by omega) ?_ | refine cnd.notY (by omega) ?_ | refine cnd.notN (by first | rfl | omega) ?_ | refine cnd.decY (by simp only [List.length_cons, List.length_nil, List.length_map, List.length_append]; omega) ?_ | refine cnd.decN (by simp only [List.length_cons, List.length_nil, List.length_map, List.length_append]; omega) ?_ | refine Exists.intro _ (And.intro atI_zero ?_) | refine Exists.intro _ (And.intro atI_one ?_) | refine Exists.intro _ (And.intro (atI_last _ _) ?_) | refine Exists.intro _ (And.intro (setAt_last _ _ _) ?_) | refine Exists.intro _ (Exists.intro _ (Exists.intro _ (Exists.intro _ (And.intro rfl ?_)))) | refine Exists.intro _ (And.intro rfl ?_) | refine Exists.intro _ (Exists.intro _ (And.intro rfl ?_)) | refine Exists.intro _ (Exists.intro _ (Exists.intro _ (And.intro rfl ?_))) | refine And.intro (cdivW_small (by first | decide | omega) (by first | decide | omega)) ?_ | refine And.intro (.inl (.inl ⟨by omega, by omega⟩)) ?_ | refine And.intro (.inl (.inr ⟨by omega, by omega⟩)) ?_ | refine And.intro ⟨by decide, by decide, by decide⟩ ?_ | refine And.intro (by decide) ?_ | refine And.intro (by omega) ?_ | refine And.intro (by simp only [List.length_cons, List.length_nil]; decide) ?_ | refine And.intro (by simp only [List.length_cons, List.length_nil, List.length_map, List.length_append]; omega) ?_)); (conv => whnf)
        exact ⟨_, rfl⟩
      · rw [hz, List.length_append, List.length_singleton] at hpre
        rw [hz, stp_snoc, getLast_map]
        rw [show (f.map encB ++ [encB l]).isEmpty = false from by simp]
        (repeat ((conv => whnf); first | refine cnd.yes ?_ | refine cnd.no ?_ | refine cnd.decY (by first | rfl | omega) ?_ | refine cnd.decN (by omega) ?_ | refine cnd.notY (by omega) ?_ | refine cnd.notN (by first | rfl | omega) ?_ | refine cnd.decY (by simp only [List.length_cons, List.length_nil, List.length_map, List.length_append]; omega) ?_ | refine cnd.decN (by simp only [List.length_cons, List.length_nil, List.length_map, List.length_append]; omega) ?_ | refine Exists.intro _ (And.intro atI_zero ?_) | refine Exists.intro _ (And.intro atI_one ?_) | refine Exists.intro _ (And.intro (atI_last _ _) ?_) | refine Exists.intro _ (And.intro (setAt_last _ _ _) ?_) | refine Exists.intro _ (Exists.intro _ (Exists.intro _ (Exists.intro _ (And.intro rfl ?_)))) | refine Exists.intro _ (And.intro rfl ?_) | refine Exists.intro _ (Exists.intro _ (And.intro rfl ?_)) | refine Exists.intro _ (Exists.intro _ (Exists.intro _ (And.intro rfl ?_))) | refine And.intro (cdivW_small (by first | decide | omega) (by first | decide | omega)) ?_ | refine And.intro (.inl (.inl ⟨by omega, by omega⟩)) ?_ | refine And.intro (.inl (.inr ⟨by omega, by omega⟩)) ?_ | refine And.intro ⟨by decide, by decide, by decide⟩ ?_ | refine And.intro (by decide) ?_ | refine And.intro (by omega) ?_ | refine And.intro (by simp only [List.length_cons, List.length_nil]; decide) ?_ | refine And.intro (by simp only [List.length_cons, List.length_nil, List.length_map, List.length_append]; omega) ?_)); (conv => whnf)
        refine .dec (fun hx => ?_) fun hx => ?_
        · rw [if_pos hx]
          (repeat ((conv => whnf); first | refine cnd.yes ?_ | refine cnd.no ?_ | refine cnd.decY (by first | rfl | omega) ?_ | refine cnd.decN (by omega) ?_ | refine cnd.notY (by omega) ?_ | refine cnd.notN (by first | rfl | omega) ?_ | refine cnd.decY (by simp only [List.length_cons, List.length_nil, List.length_map, List.length_append]; omega) ?_ | refine cnd.decN (by simp only [List.length_cons, List.length_nil, List.length_map, List.length_append]; omega) ?_ | refine Exists.intro _ (And.intro atI_zero ?_) | refine Exists.intro _ (And.intro atI_one ?_) | refine Exists.intro _ (And.intro (atI_last _ _) ?_) | refine Exists.intro _ (And.intro (setAt_last _ _ _) ?_) | refine Exists.intro _ (Exists.intro _ (Exists.intro _ (Exists.intro _ (And.intro rfl ?_)))) | refine Exists.intro _ (And.intro rfl ?_) | refine Exists.intro _ (Exists.intro _ (And.intro rfl ?_)) | refine Exists.intro _ (Exists.intro _ (Exists.intro _ (And.intro rfl ?_))) | refine And.intro (cdivW_small (by first | decide | omega) (by first | decide | omega)) ?_ | refine And.intro (.inl (.inl ⟨by omega, by omega⟩)) ?_ | refine And.intro (.inl (.inr ⟨by omega, by omega⟩)) ?_ | refine And.intro ⟨by decide, by decide, by decide⟩ ?_ | refine And.intro (by decide) ?_ | refine And.intro (by omega) ?_ | refine And.intro (by simp only [List.length_cons, List.length_nil]; decide) ?_ | refine And.intro (by simp only [List.length_cons, List.length_nil, List.length_map, List.length_append]; omega) ?_)); (conv => whnf)
          exact ⟨.pub (.int x), by rw [getLast_map]; rfl⟩
        · rw [if_neg hx]
          (repeat ((conv => whnf); first | refine cnd.yes ?_ | refine cnd.no ?_ | refine cnd.decY (by first | rfl | omega) ?_ | refine cnd.decN (by omega) ?_ | refine cnd.notY (by omega) ?_ | refine cnd.notN (by first | rfl | omega) ?_ | refine cnd.decY (by simp only [List.length_cons, List.length_nil, List.length_map, List.length_append]; omega) ?_ | refine cnd.decN (by simp only [List.length_cons, List.length_nil, List.length_map, List.length_append]; omega) ?_ | refine Exists.intro _ (And.intro atI_zero ?_) | refine Exists.intro _ (And.intro atI_one ?_) | refine Exists.intro _ (And.intro (atI_last _ _) ?_) | refine Exists.intro _ (And.intro (setAt_last _ _ _) ?_) | refine Exists.intro _ (Exists.intro _ (Exists.intro _ (Exists.intro _ (And.intro rfl ?_)))) | refine Exists.intro _ (And.intro rfl ?_) | refine Exists.intro _ (Exists.intro _ (And.intro rfl ?_)) | refine Exists.intro _ (Exists.intro _ (Exists.intro _ (And.intro rfl ?_))) | refine And.intro (cdivW_small (by first | decide | omega) (by first | decide | omega)) ?_ | refine And.intro (.inl (.inl ⟨by omega, by omega⟩)) ?_ | refine And.intro (.inl (.inr ⟨by omega, by omega⟩)) ?_ | refine And.intro ⟨by decide, by decide, by decide⟩ ?_ | refine And.intro (by decide) ?_ | refine And.intro (by omega) ?_ | refine And.intro (by simp only [List.length_cons, List.length_nil]; decide) ?_ | refine And.intro (by simp only [List.length_cons, List.length_nil, List.length_map, List.length_append]; omega) ?_)); (conv => whnf)
          exact ⟨.pub (.int x), by rw [getLast_map, getLast_map]; rfl⟩
    · rintro ρ2 ⟨s4, rfl⟩
      (repeat ((conv => whnf); first | refine cnd.yes ?_ | refine cnd.no ?_ | refine cnd.decY (by first | rfl | omega) ?_ | refine cnd.decN (by omega) ?_ | refine cnd.notY (by omega) ?_ | refine cnd.notN (by first | rfl | omega) ?_ | refine cnd.decY (by simp only [List.length_cons, List.length_nil, List.length_map, List.length_append]; omega) ?_ | refine cnd.decN (by simp only [List.length_cons, List.length_nil, List.length_map, List.length_append]; omega) ?_ | refine Exists.intro _ (And.intro atI_zero ?_) | refine Exists.intro _ (And.intro atI_one ?_) | refine Exists.intro _ (And.intro (atI_last _ _) ?_) | refine Exists.intro _ (And.intro (setAt_last _ _ _) ?_) | refine Exists.intro _ (Exists.intro _ (Exists.intro _ (Exists.intro _ (And.intro rfl ?_)))) | refine Exists.intro _ (And.intro rfl ?_) | refine Exists.intro _ (Exists.intro _ (And.intro rfl ?_)) | refine Exists.intro _ (Exists.intro _ (Exists.intro _ (And.intro rfl ?_))) | refine And.intro (cdivW_small (by first | decide | omega) (by first | decide | omega)) ?_ | refine And.intro (.inl (.inl ⟨by omega, by omega⟩)) ?_ | refine And.intro (.inl (.inr ⟨by omega, by omega⟩)) ?_ | refine And.intro ⟨by decide, by decide, by decide⟩ ?_ | refine And.intro (by decide) ?_ | refine And.intro (by omega) ?_ | refine And.intro (by simp only [List.length_cons, List.length_nil]; decide) ?_ | refine And.intro (by simp only [List.length_cons, List.length_nil, List.length_map, List.length_append]; omega) ?_)); (conv => whnf)
      exact q

/-! ### the law's sets -/
def Φ__law_lies : PhiP := fun ds Q => ∃ (x : Int) (bs : List Bl), ds = [.int x, .tuple (bs.map encB)] ∧ bs.length ≤ 1000 ∧ Q (.bool (lies bs x))
theorem m__law_lies : ∀ {ds : List PD} {Q Q' : PD → Prop}, (∀ d, Q d → Q' d) → Φ__law_lies ds Q → Φ__law_lies ds Q' := fun h ⟨i, l, e, b, q⟩ => ⟨i, l, e, b, h _ q⟩
theorem l__law_lies : ∀ ds Q, Φ__law_lies ds Q → ds.length = 2 := fun ds Q ⟨i, l, e, _⟩ => by rw [e]; rfl
theorem at__law_lies (T : Tp K mg) : FnAt P w K mg base "_law_lies" 1 (spP K Φ__law_lies) := by
  obtain ⟨f, fd, F, hm, hb⟩ := T.d__law_lies
  refine ⟨f, fd, ["number", "blocks_so"], fn_p F sc__law_lies l__law_lies fun cdv A outer s H E hr => ⟨_, (dss_one (ds_ret (de_callB (any_ok rfl) anyW_m T.any b_any (de_lc rfl sc__law_lies.nd (blkOk_by (N := ["number", "blocks_so", "start", "end"]) (sc := defScope s__law_lies) (own := [("start", 2), ("end", 3)]) (by decide +kernel)) (lc_ok (di_exp (de_var 1)) (fun _ _ _ _ _ => (dg_t rfl (dgs_cons (dg_n 2 sc__law_lies.nd) (dgs_cons (dg_n 3 sc__law_lies.nd) dgs_nil)) (hl := gs2))) (fun _ _ _ _ _ => dp_nil) (fun _ _ _ _ _ => (de_chain (hu65 hr) (de_var 2) (de_var 0) (de_var 3)))))))), fun ds Q h => ?_⟩, hm, F.kp, hb⟩
  obtain ⟨x, bs, rfl, hl, q⟩ := h
  (repeat ((conv => whnf); first | refine cnd.yes ?_ | refine cnd.no ?_ | refine cnd.decY (by first | rfl | omega) ?_ | refine cnd.decN (by omega) ?_ | refine cnd.notY (by omega) ?_ | refine cnd.notN (by first | rfl | omega) ?_ | refine cnd.decY (by simp only [List.length_cons, List.length_nil, List.length_map, List.length_append]; omega) ?_ | refine cnd.decN (by simp only [List.length_cons, List.length_nil, List.length_map, List.length_append]; omega) ?_ | refine Exists.intro _ (And.intro atI_zero ?_) | refine Exists.intro _ (And.intro atI_one ?_) | refine Exists.intro _ (And.intro (atI_last _ _) ?_) | refine Exists.intro _ (And.intro (setAt_last _ _ _) ?_) | refine Exists.intro _ (Exists.intro _ (Exists.intro _ (Exists.intro _ (And.intro rfl ?_)))) | refine Exists.intro _ (And.intro rfl ?_) | refine Exists.intro _ (Exists.intro _ (And.intro rfl ?_)) | refine Exists.intro _ (Exists.intro _ (Exists.intro _ (And.intro rfl ?_))) | refine And.intro (cdivW_small (by first | decide | omega) (by first | decide | omega)) ?_ | refine And.intro (.inl (.inl ⟨by omega, by omega⟩)) ?_ | refine And.intro (.inl (.inr ⟨by omega, by omega⟩)) ?_ | refine And.intro ⟨by decide, by decide, by decide⟩ ?_ | refine And.intro (by decide) ?_ | refine And.intro (by omega) ?_ | refine And.intro (by simp only [List.length_cons, List.length_nil]; decide) ?_ | refine And.intro (by simp only [List.length_cons, List.length_nil, List.length_map, List.length_append]; omega) ?_)); (conv => whnf)
  refine lcQ_all bs encB (fun b => .bool (decide (b.1 ≤ x) && decide (x ≤ b.2))) (by omega) (fun b hb KK S hK => ?_) ?_
  · (repeat ((conv => whnf); first | refine cnd.yes ?_ | refine cnd.no ?_ | refine cnd.decY (by first | rfl | omega) ?_ | refine cnd.decN (by omega) ?_ | refine cnd.notY (by omega) ?_ | refine cnd.notN (by first | rfl | omega) ?_ | refine cnd.decY (by simp only [List.length_cons, List.length_nil, List.length_map, List.length_append]; omega) ?_ | refine cnd.decN (by simp only [List.length_cons, List.length_nil, List.length_map, List.length_append]; omega) ?_ | refine Exists.intro _ (And.intro atI_zero ?_) | refine Exists.intro _ (And.intro atI_one ?_) | refine Exists.intro _ (And.intro (atI_last _ _) ?_) | refine Exists.intro _ (And.intro (setAt_last _ _ _) ?_) | refine Exists.intro _ (Exists.intro _ (Exists.intro _ (Exists.intro _ (And.intro rfl ?_)))) | refine Exists.intro _ (And.intro rfl ?_) | refine Exists.intro _ (Exists.intro _ (And.intro rfl ?_)) | refine Exists.intro _ (Exists.intro _ (Exists.intro _ (And.intro rfl ?_))) | refine And.intro (cdivW_small (by first | decide | omega) (by first | decide | omega)) ?_ | refine And.intro (.inl (.inl ⟨by omega, by omega⟩)) ?_ | refine And.intro (.inl (.inr ⟨by omega, by omega⟩)) ?_ | refine And.intro ⟨by decide, by decide, by decide⟩ ?_ | refine And.intro (by decide) ?_ | refine And.intro (by omega) ?_ | refine And.intro (by simp only [List.length_cons, List.length_nil]; decide) ?_ | refine And.intro (by simp only [List.length_cons, List.length_nil, List.length_map, List.length_append]; omega) ?_)); (conv => whnf)
    refine .dec (fun h => ?_) fun h => ?_
    · rw [decide_eq_true h, Bool.true_and] at hK
      (repeat ((conv => whnf); first | refine cnd.yes ?_ | refine cnd.no ?_ | refine cnd.decY (by first | rfl | omega) ?_ | refine cnd.decN (by omega) ?_ | refine cnd.notY (by omega) ?_ | refine cnd.notN (by first | rfl | omega) ?_ | refine cnd.decY (by simp only [List.length_cons, List.length_nil, List.length_map, List.length_append]; omega) ?_ | refine cnd.decN (by simp only [List.length_cons, List.length_nil, List.length_map, List.length_append]; omega) ?_ | refine Exists.intro _ (And.intro atI_zero ?_) | refine Exists.intro _ (And.intro atI_one ?_) | refine Exists.intro _ (And.intro (atI_last _ _) ?_) | refine Exists.intro _ (And.intro (setAt_last _ _ _) ?_) | refine Exists.intro _ (Exists.intro _ (Exists.intro _ (Exists.intro _ (And.intro rfl ?_)))) | refine Exists.intro _ (And.intro rfl ?_) | refine Exists.intro _ (Exists.intro _ (And.intro rfl ?_)) | refine Exists.intro _ (Exists.intro _ (Exists.intro _ (And.intro rfl ?_))) | refine And.intro (cdivW_small (by first | decide | omega) (by first | decide | omega)) ?_ | refine And.intro (.inl (.inl ⟨by omega, by omega⟩)) ?_ | refine And.intro (.inl (.inr ⟨by omega, by omega⟩)) ?_ | refine And.intro ⟨by decide, by decide, by decide⟩ ?_ | refine And.intro (by decide) ?_ | refine And.intro (by omega) ?_ | refine And.intro (by simp only [List.length_cons, List.length_nil]; decide) ?_ | refine And.intro (by simp only [List.length_cons, List.length_nil, List.length_map, List.length_append]; omega) ?_)); (conv => whnf)
      exact hK
    · rw [decide_eq_false h, Bool.false_and] at hK
      (repeat ((conv => whnf); first | refine cnd.yes ?_ | refine cnd.no ?_ | refine cnd.decY (by first | rfl | omega) ?_ | refine cnd.decN (by omega) ?_ | refine cnd.notY (by omega) ?_ | refine cnd.notN (by first | rfl | omega) ?_ | refine cnd.decY (by simp only [List.length_cons, List.length_nil, List.length_map, List.length_append]; omega) ?_ | refine cnd.decN (by simp only [List.length_cons, List.length_nil, List.length_map, List.length_append]; omega) ?_ | refine Exists.intro _ (And.intro atI_zero ?_) | refine Exists.intro _ (And.intro atI_one ?_) | refine Exists.intro _ (And.intro (atI_last _ _) ?_) | refine Exists.intro _ (And.intro (setAt_last _ _ _) ?_) | refine Exists.intro _ (Exists.intro _ (Exists.intro _ (Exists.intro _ (And.intro rfl ?_)))) | refine Exists.intro _ (And.intro rfl ?_) | refine Exists.intro _ (Exists.intro _ (And.intro rfl ?_)) | refine Exists.intro _ (Exists.intro _ (Exists.intro _ (And.intro rfl ?_))) | refine And.intro (cdivW_small (by first | decide | omega) (by first | decide | omega)) ?_ | refine And.intro (.inl (.inl ⟨by omega, by omega⟩)) ?_ | refine And.intro (.inl (.inr ⟨by omega, by omega⟩)) ?_ | refine And.intro ⟨by decide, by decide, by decide⟩ ?_ | refine And.intro (by decide) ?_ | refine And.intro (by omega) ?_ | refine And.intro (by simp only [List.length_cons, List.length_nil]; decide) ?_ | refine And.intro (by simp only [List.length_cons, List.length_nil, List.length_map, List.length_append]; omega) ?_)); (conv => whnf)
      exact hK
  · conv => whnf
    refine ⟨bs.map fun b => decide (b.1 ≤ x) && decide (x ≤ b.2), by rw [bools_is], ?_⟩
    conv => whnf
    rw [List.any_map]
    exact q
def Φ__law_set_of : PhiP := fun ds Q => ∃ bs : List Bl, ds = [encF (some bs)] ∧ bs.length ≤ 1000 ∧ Q (.list ((setOf bs).map PyData.int))
theorem m__law_set_of : ∀ {ds : List PD} {Q Q' : PD → Prop}, (∀ d, Q d → Q' d) → Φ__law_set_of ds Q → Φ__law_set_of ds Q' := fun h ⟨l, e, b, q⟩ => ⟨l, e, b, h _ q⟩
theorem l__law_set_of : ∀ ds Q, Φ__law_set_of ds Q → ds.length = 1 := fun ds Q ⟨l, e, _⟩ => by rw [e]; rfl
theorem at__law_set_of (T : Tp K mg) : FnAt P w K mg base "_law_set_of" 2 (spP K Φ__law_set_of) := by
  obtain ⟨f, fd, F, hm, hb⟩ := T.d__law_set_of
  refine ⟨f, fd, ["blocks_so"], fn_p F sc__law_set_of l__law_set_of fun cdv A outer s H E hr => ⟨_, (dss_one (ds_ret (de_lc rfl sc__law_set_of.nd (blkOk_by (N := ["blocks_so", "x"]) (sc := defScope s__law_set_of) (own := [("x", 1)]) (by decide +kernel)) (lc_ok (di_range2 T.range (da_cons de_int (da_cons de_int da_nil))) (fun _ _ _ _ _ => (dg_n 1 sc__law_set_of.nd)) (fun _ _ _ _ _ => (dp_one (dt_w (dw_and (dt_cmp (hu65 hr) (de_var 0) de_non) (dw_and1 (dt_val (de_call (at__law_lies T) hr m__law_lies (da_cons (de_var 1) (da_cons (de_var 0) da_nil))))))))) (fun _ _ _ _ _ => (de_var 1)))))), fun ds Q h => ?_⟩, hm, F.kp, hb⟩
  obtain ⟨bs, rfl, hl, q⟩ := h
  (repeat ((conv => whnf); first | refine cnd.yes ?_ | refine cnd.no ?_ | refine cnd.decY (by first | rfl | omega) ?_ | refine cnd.decN (by omega) ?_ | refine cnd.notY (by omega) ?_ | refine cnd.notN (by first | rfl | omega) ?_ | refine cnd.decY (by simp only [List.length_cons, List.length_nil, List.length_map, List.length_append]; omega) ?_ | refine cnd.decN (by simp only [List.length_cons, List.length_nil, List.length_map, List.length_append]; omega) ?_ | refine Exists.intro _ (And.intro atI_zero ?_) | refine Exists.intro _ (And.intro atI_one ?_) | refine Exists.intro _ (And.intro (atI_last _ _) ?_) | refine Exists.intro _ (And.intro (setAt_last _ _ _) ?_) | refine Exists.intro _ (Exists.intro _ (Exists.intro _ (Exists.intro _ (And.intro rfl ?_)))) | refine Exists.intro _ (And.intro rfl ?_) | refine Exists.intro _ (Exists.intro _ (And.intro rfl ?_)) | refine Exists.intro _ (Exists.intro _ (Exists.intro _ (And.intro rfl ?_))) | refine And.intro (cdivW_small (by first | decide | omega) (by first | decide | omega)) ?_ | refine And.intro (.inl (.inl ⟨by omega, by omega⟩)) ?_ | refine And.intro (.inl (.inr ⟨by omega, by omega⟩)) ?_ | refine And.intro ⟨by decide, by decide, by decide⟩ ?_ | refine And.intro (by decide) ?_ | refine And.intro (by omega) ?_ | refine And.intro (by simp only [List.length_cons, List.length_nil]; decide) ?_ | refine And.intro (by simp only [List.length_cons, List.length_nil, List.length_map, List.length_append]; omega) ?_)); (conv => whnf)
  refine lcQ_map (rangeL 1 80) PyData.int (lies bs) PyData.int (by decide) (fun x hx KK S h1 h2 => ?_) ?_
  · (repeat ((conv => whnf); first | refine cnd.yes ?_ | refine cnd.no ?_ | refine cnd.decY (by first | rfl | omega) ?_ | refine cnd.decN (by omega) ?_ | refine cnd.notY (by omega) ?_ | refine cnd.notN (by first | rfl | omega) ?_ | refine cnd.decY (by simp only [List.length_cons, List.length_nil, List.length_map, List.length_append]; omega) ?_ | refine cnd.decN (by simp only [List.length_cons, List.length_nil, List.length_map, List.length_append]; omega) ?_ | refine Exists.intro _ (And.intro atI_zero ?_) | refine Exists.intro _ (And.intro atI_one ?_) | refine Exists.intro _ (And.intro (atI_last _ _) ?_) | refine Exists.intro _ (And.intro (setAt_last _ _ _) ?_) | refine Exists.intro _ (Exists.intro _ (Exists.intro _ (Exists.intro _ (And.intro rfl ?_)))) | refine Exists.intro _ (And.intro rfl ?_) | refine Exists.intro _ (Exists.intro _ (And.intro rfl ?_)) | refine Exists.intro _ (Exists.intro _ (Exists.intro _ (And.intro rfl ?_))) | refine And.intro (cdivW_small (by first | decide | omega) (by first | decide | omega)) ?_ | refine And.intro (.inl (.inl ⟨by omega, by omega⟩)) ?_ | refine And.intro (.inl (.inr ⟨by omega, by omega⟩)) ?_ | refine And.intro ⟨by decide, by decide, by decide⟩ ?_ | refine And.intro (by decide) ?_ | refine And.intro (by omega) ?_ | refine And.intro (by simp only [List.length_cons, List.length_nil]; decide) ?_ | refine And.intro (by simp only [List.length_cons, List.length_nil, List.length_map, List.length_append]; omega) ?_)); (conv => whnf)
    refine ⟨fun h => ?_, fun h => ?_⟩
    · (repeat ((conv => whnf); first | refine cnd.yes ?_ | refine cnd.no ?_ | refine cnd.decY (by first | rfl | omega) ?_ | refine cnd.decN (by omega) ?_ | refine cnd.notY (by omega) ?_ | refine cnd.notN (by first | rfl | omega) ?_ | refine cnd.decY (by simp only [List.length_cons, List.length_nil, List.length_map, List.length_append]; omega) ?_ | refine cnd.decN (by simp only [List.length_cons, List.length_nil, List.length_map, List.length_append]; omega) ?_ | refine Exists.intro _ (And.intro atI_zero ?_) | refine Exists.intro _ (And.intro atI_one ?_) | refine Exists.intro _ (And.intro (atI_last _ _) ?_) | refine Exists.intro _ (And.intro (setAt_last _ _ _) ?_) | refine Exists.intro _ (Exists.intro _ (Exists.intro _ (Exists.intro _ (And.intro rfl ?_)))) | refine Exists.intro _ (And.intro rfl ?_) | refine Exists.intro _ (Exists.intro _ (And.intro rfl ?_)) | refine Exists.intro _ (Exists.intro _ (Exists.intro _ (And.intro rfl ?_))) | refine And.intro (cdivW_small (by first | decide | omega) (by first | decide | omega)) ?_ | refine And.intro (.inl (.inl ⟨by omega, by omega⟩)) ?_ | refine And.intro (.inl (.inr ⟨by omega, by omega⟩)) ?_ | refine And.intro ⟨by decide, by decide, by decide⟩ ?_ | refine And.intro (by decide) ?_ | refine And.intro (by omega) ?_ | refine And.intro (by simp only [List.length_cons, List.length_nil]; decide) ?_ | refine And.intro (by simp only [List.length_cons, List.length_nil, List.length_map, List.length_append]; omega) ?_)); (conv => whnf)
      exact h1 h
    · exact h2 h
  · (repeat ((conv => whnf); first | refine cnd.yes ?_ | refine cnd.no ?_ | refine cnd.decY (by first | rfl | omega) ?_ | refine cnd.decN (by omega) ?_ | refine cnd.notY (by omega) ?_ | refine cnd.notN (by first | rfl | omega) ?_ | refine cnd.decY (by simp only [List.length_cons, List.length_nil, List.length_map, List.length_append]; omega) ?_ | refine cnd.decN (by simp only [List.length_cons, List.length_nil, List.length_map, List.length_append]; omega) ?_ | refine Exists.intro _ (And.intro atI_zero ?_) | refine Exists.intro _ (And.intro atI_one ?_) | refine Exists.intro _ (And.intro (atI_last _ _) ?_) | refine Exists.intro _ (And.intro (setAt_last _ _ _) ?_) | refine Exists.intro _ (Exists.intro _ (Exists.intro _ (Exists.intro _ (And.intro rfl ?_)))) | refine Exists.intro _ (And.intro rfl ?_) | refine Exists.intro _ (Exists.intro _ (And.intro rfl ?_)) | refine Exists.intro _ (Exists.intro _ (Exists.intro _ (And.intro rfl ?_))) | refine And.intro (cdivW_small (by first | decide | omega) (by first | decide | omega)) ?_ | refine And.intro (.inl (.inl ⟨by omega, by omega⟩)) ?_ | refine And.intro (.inl (.inr ⟨by omega, by omega⟩)) ?_ | refine And.intro ⟨by decide, by decide, by decide⟩ ?_ | refine And.intro (by decide) ?_ | refine And.intro (by omega) ?_ | refine And.intro (by simp only [List.length_cons, List.length_nil]; decide) ?_ | refine And.intro (by simp only [List.length_cons, List.length_nil, List.length_map, List.length_append]; omega) ?_)); (conv => whnf)
    exact q
def Φ__law_blocks_of : PhiP := fun ds Q => ∃ ns : List Int, ds = [.list (ns.map PyData.int)] ∧ ns.length ≤ 1000 ∧ Q (encF (some (blocksOf ns)))
theorem m__law_blocks_of : ∀ {ds : List PD} {Q Q' : PD → Prop}, (∀ d, Q d → Q' d) → Φ__law_blocks_of ds Q → Φ__law_blocks_of ds Q' := fun h ⟨l, e, b, q⟩ => ⟨l, e, b, h _ q⟩
theorem l__law_blocks_of : ∀ ds Q, Φ__law_blocks_of ds Q → ds.length = 1 := fun ds Q ⟨l, e, _⟩ => by rw [e]; rfl
theorem blocksOf_snoc {ns : List Int} {x : Int} : blocksOf (ns ++ [x]) = bStp (blocksOf ns) x := by
  unfold blocksOf
  rw [List.foldl_append]
  rfl
theorem blocksOf_len (ns : List Int) : (blocksOf ns).length ≤ ns.length := by
  induction h : ns.length generalizing ns with
  | zero =>
    cases ns with
    | nil => exact Nat.le_refl _
    | cons _ _ => cases h
  | succ n ih =>
    rcases snoc_cases ns with rfl | ⟨s, x, rfl⟩
    · cases h
    · have hl : s.length = n := by rw [List.length_append] at h; simpa using h
      have := ih s hl
      rw [blocksOf_snoc]
      rcases snoc_cases (blocksOf s) with hz | ⟨f, l, hz⟩
      · rw [hz]; show 1 ≤ n + 1; omega
      · rw [hz, List.length_append, List.length_singleton] at this
        rw [hz, bStp_snoc]
        split <;> simp only [List.length_append, List.length_singleton] <;> omega
theorem at__law_blocks_of (T : Tp K mg) : FnAt P w K mg base "_law_blocks_of" 1 (spP K Φ__law_blocks_of) := by
  obtain ⟨f, fd, F, hm, hb⟩ := T.d__law_blocks_of
  refine ⟨f, fd, ["numbers"], fn_p F sc__law_blocks_of l__law_blocks_of fun cdv A outer s H E hr => ⟨_, (dss_cons (ds_set true 1 sc__law_blocks_of.nd (de_lst da_nil))
    (dss_cons (ds_for PassesOwn.never rfl (di_exp (de_var 0)) (dg_n 2 sc__law_blocks_of.nd) (dss_one (ds_if (dt_w (dw_and (dt_cmp (hu65 hr) (de_var 1) (de_lst da_nil)) (dw_and1 (dt_cmp (hu65 hr) (de_ix (de_ix (de_var 1) (de_neg de_int)) de_int) (de_bin (de_var 2) de_int))))) (dss_one (ds_setIx 1 (de_tup (da_cons (de_ix (de_ix (de_var 1) (de_neg de_int)) de_int) (da_cons (de_var 2) da_nil))) (de_neg de_int))) (dss_one (ds_app 1 (de_tup (da_cons (de_var 2) (da_cons (de_var 2) da_nil))))))))
    (dss_one (ds_ret (de_callTy tuple_ok tupleW_m T.tuple b_tuple (de_var 1)))))), fun ds Q h => ?_⟩, hm, F.kp, hb⟩
  obtain ⟨ns, rfl, hl, q⟩ := h
  (repeat ((conv => whnf); first | refine cnd.yes ?_ | refine cnd.no ?_ | refine cnd.decY (by first | rfl | omega) ?_ | refine cnd.decN (by omega) ?_ | refine cnd.notY (by omega) ?_ | refine cnd.notN (by first | rfl | omega) ?_ | refine cnd.decY (by simp only [List.length_cons, List.length_nil, List.length_map, List.length_append]; omega) ?_ | refine cnd.decN (by simp only [List.length_cons, List.length_nil, List.length_map, List.length_append]; omega) ?_ | refine Exists.intro _ (And.intro atI_zero ?_) | refine Exists.intro _ (And.intro atI_one ?_) | refine Exists.intro _ (And.intro (atI_last _ _) ?_) | refine Exists.intro _ (And.intro (setAt_last _ _ _) ?_) | refine Exists.intro _ (Exists.intro _ (Exists.intro _ (Exists.intro _ (And.intro rfl ?_)))) | refine Exists.intro _ (And.intro rfl ?_) | refine Exists.intro _ (Exists.intro _ (And.intro rfl ?_)) | refine Exists.intro _ (Exists.intro _ (Exists.intro _ (And.intro rfl ?_))) | refine And.intro (cdivW_small (by first | decide | omega) (by first | decide | omega)) ?_ | refine And.intro (.inl (.inl ⟨by omega, by omega⟩)) ?_ | refine And.intro (.inl (.inr ⟨by omega, by omega⟩)) ?_ | refine And.intro ⟨by decide, by decide, by decide⟩ ?_ | refine And.intro (by decide) ?_ | refine And.intro (by omega) ?_ | refine And.intro (by simp only [List.length_cons, List.length_nil]; decide) ?_ | refine And.intro (by simp only [List.length_cons, List.length_nil, List.length_map, List.length_append]; omega) ?_)); (conv => whnf)
  refine forQ.by ns PyData.int (fun pre ρ => ∃ s2, ρ = [.pub (.list (ns.map PyData.int)), .lst ((blocksOf pre).map encB), s2]) ⟨_, rfl⟩ ?_ ?_
  · rintro pre x ρ2 ⟨post, e⟩ ⟨s2, rfl⟩
    have hpre := blocksOf_len pre
    rw [e, List.length_append] at hl
    rw [blocksOf_snoc]
    (repeat ((conv => whnf); first | refine cnd.yes ?_ | refine cnd.no ?_ | refine cnd.decY (by first | rfl | omega) ?_ | refine cnd.decN (by omega) ?_ | refine cnd.notY (by omega) ?_ | refine cnd.notN (by first | rfl | omega) ?_ | refine cnd.decY (by simp only [List.length_cons, List.length_nil, List.length_map, List.length_append]; omega) ?_ | refine cnd.decN (by simp only [List.length_cons, List.length_nil, List.length_map, List.length_append]; omega) ?_ | refine Exists.intro _ (And.intro atI_zero ?_) | refine Exists.intro _ (And.intro atI_one ?_) | refine Exists.intro _ (And.intro (atI_last _ _) ?_) | refine Exists.intro _ (And.intro (setAt_last _ _ _) ?_) | refine Exists.intro _ (Exists.intro _ (Exists.intro _ (Exists.intro _ (And.intro rfl ?_)))) | refine Exists.intro _ (And.intro rfl ?_) | refine Exists.intro _ (Exists.intro _ (And.intro rfl ?_)) | refine Exists.intro _ (Exists.intro _ (Exists.intro _ (And.intro rfl ?_))) | refine And.intro (cdivW_small (by first | decide | omega) (by first | decide | omega)) ?_ | refine And.intro (.inl (.inl ⟨by omega, by omega⟩)) ?_ | refine And.intro (.inl (.inr ⟨by omega, by omega⟩)) ?_ | refine And.intro ⟨by decide, by decide, by decide⟩ ?_ | refine And.intro (by decide) ?_ | refine And.intro (by omega) ?_ | refine And.intro (by simp only [List.length_cons, List.length_nil]; decide) ?_ | refine And.intro (by simp only [List.length_cons, List.length_nil, List.length_map, List.length_append]; omega) ?_)); (conv => whnf)
    refine ⟨⟨shaped_of (okN_Bs _ (by omega)) (by decide), shaped_nil⟩, ?_⟩
    rw [eqv_listNil]
    rcases snoc_cases (blocksOf pre) with hz | ⟨f, l, hz⟩
    · rw [hz]
      (repeat ((conv => whnf); first | refine cnd.yes ?_ | refine cnd.no ?_ | refine cnd.decY (by first | rfl | omega) ?_ | refine cnd.decN (by omega) ?_ | refine cnd.notY (by omega) ?_ | refine cnd.notN (by first | rfl | omega) ?_ | refine cnd.decY (by simp only [List.length_cons, List.length_nil, List.length_map, List.length_append]; omega) ?_ | refine cnd.decN (by simp only [List.length_cons, List.length_nil, List.length_map, List.length_append]; omega) ?_ | refine Exists.intro _ (And.intro atI_zero ?_) | refine Exists.intro _ (And.intro atI_one ?_) | refine Exists.intro _ (And.intro (atI_last _ _) ?_) | refine Exists.intro _ (And.intro (setAt_last _ _ _) ?_) | refine Exists.intro _ (Exists.intro _ (Exists.intro _ (Exists.intro _ (And.intro rfl ?_)))) | refine Exists.intro _ (And.intro rfl ?_) | refine Exists.intro _ (Exists.intro _ (And.intro rfl ?_)) | refine Exists.intro _ (Exists.intro _ (Exists.intro _ (And.intro rfl ?_))) | refine And.intro (cdivW_small (by first | decide | omega) (by first | decide | omega)) ?_ | refine And.intro (.inl (.inl ⟨by omega, by omega⟩)) ?_ | refine And.intro (.inl (.inr ⟨by omega, by omega⟩)) ?_ | refine And.intro ⟨by decide, by decide, by decide⟩ ?_ | refine And.intro (by decide) ?_ | refine And.intro (by omega) ?_ | refine And.intro (by simp only [List.length_cons, List.length_nil]; decide) ?_ | refine And.intro (by simp only [List.length_cons, List.length_nil, List.length_map, List.length_append]; omega) ?_)); (conv => whnf)
      exact ⟨_, rfl⟩
    · rw [hz, List.length_append, List.length_singleton] at hpre
      rw [hz, bStp_snoc, getLast_map]
      rw [show (f.map encB ++ [encB l]).isEmpty = false from by simp]
      (repeat ((conv => whnf); first | refine cnd.yes ?_ | refine cnd.no ?_ | refine cnd.decY (by first | rfl | omega) ?_ | refine cnd.decN (by omega) ?_ | refine cnd.notY (by omega) ?_ | refine cnd.notN (by first | rfl | omega) ?_ | refine cnd.decY (by simp only [List.length_cons, List.length_nil, List.length_map, List.length_append]; omega) ?_ | refine cnd.decN (by simp only [List.length_cons, List.length_nil, List.length_map, List.length_append]; omega) ?_ | refine Exists.intro _ (And.intro atI_zero ?_) | refine Exists.intro _ (And.intro atI_one ?_) | refine Exists.intro _ (And.intro (atI_last _ _) ?_) | refine Exists.intro _ (And.intro (setAt_last _ _ _) ?_) | refine Exists.intro _ (Exists.intro _ (Exists.intro _ (Exists.intro _ (And.intro rfl ?_)))) | refine Exists.intro _ (And.intro rfl ?_) | refine Exists.intro _ (Exists.intro _ (And.intro rfl ?_)) | refine Exists.intro _ (Exists.intro _ (Exists.intro _ (And.intro rfl ?_))) | refine And.intro (cdivW_small (by first | decide | omega) (by first | decide | omega)) ?_ | refine And.intro (.inl (.inl ⟨by omega, by omega⟩)) ?_ | refine And.intro (.inl (.inr ⟨by omega, by omega⟩)) ?_ | refine And.intro ⟨by decide, by decide, by decide⟩ ?_ | refine And.intro (by decide) ?_ | refine And.intro (by omega) ?_ | refine And.intro (by simp only [List.length_cons, List.length_nil]; decide) ?_ | refine And.intro (by simp only [List.length_cons, List.length_nil, List.length_map, List.length_append]; omega) ?_)); (conv => whnf)
      refine .dec (fun hx => ?_) fun hx => ?_
      · rw [if_pos hx]
        (repeat ((conv => whnf); first | refine cnd.yes ?_ | refine cnd.no ?_ | refine cnd.decY (by first | rfl | omega) ?_ | refine cnd.decN (by omega) ?_ | refine cnd.notY (by omega) ?_ | refine cnd.notN (by first | rfl | omega) ?_ | refine cnd.decY (by simp only [List.length_cons, List.length_nil, List.length_map, List.length_append]; omega) ?_ | refine cnd.decN (by simp only [List.length_cons, List.length_nil, List.length_map, List.length_append]; omega) ?_ | refine Exists.intro _ (And.intro atI_zero ?_) | refine Exists.intro _ (And.intro atI_one ?_) | refine Exists.intro _ (And.intro (atI_last _ _) ?_) | refine Exists.intro _ (And.intro (setAt_last _ _ _) ?_) | refine Exists.intro _ (Exists.intro _ (Exists.intro _ (Exists.intro _ (And.intro rfl ?_)))) | refine Exists.intro _ (And.intro rfl ?_) | refine Exists.intro _ (Exists.intro _ (And.intro rfl ?_)) | refine Exists.intro _ (Exists.intro _ (Exists.intro _ (And.intro rfl ?_))) | refine And.intro (cdivW_small (by first | decide | omega) (by first | decide | omega)) ?_ | refine And.intro (.inl (.inl ⟨by omega, by omega⟩)) ?_ | refine And.intro (.inl (.inr ⟨by omega, by omega⟩)) ?_ | refine And.intro ⟨by decide, by decide, by decide⟩ ?_ | refine And.intro (by decide) ?_ | refine And.intro (by omega) ?_ | refine And.intro (by simp only [List.length_cons, List.length_nil]; decide) ?_ | refine And.intro (by simp only [List.length_cons, List.length_nil, List.length_map, List.length_append]; omega) ?_)); (conv => whnf)
        exact ⟨.pub (.int x), by rw [getLast_map]; rfl⟩
      · rw [if_neg hx]
        (repeat ((conv => whnf); first | refine cnd.yes ?_ | refine cnd.no ?_ | refine cnd.decY (by first | rfl | omega) ?_ | refine cnd.decN (by omega) ?_ | refine cnd.notY (by omega) ?_ | refine cnd.notN (by first | rfl | omega) ?_ | refine cnd.decY (by simp only [List.length_cons, List.length_nil, List.length_map, List.length_append]; omega) ?_ | refine cnd.decN (by simp only [List.length_cons, List.length_nil, List.length_map, List.length_append]; omega) ?_ | refine Exists.intro _ (And.intro atI_zero ?_) | refine Exists.intro _ (And.intro atI_one ?_) | refine Exists.intro _ (And.intro (atI_last _ _) ?_) | refine Exists.intro _ (And.intro (setAt_last _ _ _) ?_) | refine Exists.intro _ (Exists.intro _ (Exists.intro _ (Exists.intro _ (And.intro rfl ?_)))) | refine Exists.intro _ (And.intro rfl ?_) | refine Exists.intro _ (Exists.intro _ (And.intro rfl ?_)) | refine Exists.intro _ (Exists.intro _ (Exists.intro _ (And.intro rfl ?_))) | refine And.intro (cdivW_small (by first | decide | omega) (by first | decide | omega)) ?_ | refine And.intro (.inl (.inl ⟨by omega, by omega⟩)) ?_ | refine And.intro (.inl (.inr ⟨by omega, by omega⟩)) ?_ | refine And.intro ⟨by decide, by decide, by decide⟩ ?_ | refine And.intro (by decide) ?_ | refine And.intro (by omega) ?_ | refine And.intro (by simp only [List.length_cons, List.length_nil]; decide) ?_ | refine And.intro (by simp only [List.length_cons, List.length_nil, List.length_map, List.length_append]; omega) ?_)); (conv => whnf)
        exact ⟨.pub (.int x), by rw [getLast_map, getLast_map]; rfl⟩
  · rintro ρ2 ⟨s2, rfl⟩
    (repeat ((conv => whnf); first | refine cnd.yes ?_ | refine cnd.no ?_ | refine cnd.decY (by first | rfl | omega) ?_ | refine cnd.decN (by omega) ?_ | refine cnd.notY (by omega) ?_ | refine cnd.notN (by first | rfl | omega) ?_ | refine cnd.decY (by simp only [List.length_cons, List.length_nil, List.length_map, List.length_append]; omega) ?_ | refine cnd.decN (by simp only [List.length_cons, List.length_nil, List.length_map, List.length_append]; omega) ?_ | refine Exists.intro _ (And.intro atI_zero ?_) | refine Exists.intro _ (And.intro atI_one ?_) | refine Exists.intro _ (And.intro (atI_last _ _) ?_) | refine Exists.intro _ (And.intro (setAt_last _ _ _) ?_) | refine Exists.intro _ (Exists.intro _ (Exists.intro _ (Exists.intro _ (And.intro rfl ?_)))) | refine Exists.intro _ (And.intro rfl ?_) | refine Exists.intro _ (Exists.intro _ (And.intro rfl ?_)) | refine Exists.intro _ (Exists.intro _ (Exists.intro _ (And.intro rfl ?_))) | refine And.intro (cdivW_small (by first | decide | omega) (by first | decide | omega)) ?_ | refine And.intro (.inl (.inl ⟨by omega, by omega⟩)) ?_ | refine And.intro (.inl (.inr ⟨by omega, by omega⟩)) ?_ | refine And.intro ⟨by decide, by decide, by decide⟩ ?_ | refine And.intro (by decide) ?_ | refine And.intro (by omega) ?_ | refine And.intro (by simp only [List.length_cons, List.length_nil]; decide) ?_ | refine And.intro (by simp only [List.length_cons, List.length_nil, List.length_map, List.length_append]; omega) ?_)); (conv => whnf)
    exact q
/-- all numbers lie between 1 and 60 -/
def low60 (bs : List Bl) : Prop := ∀ b, b ∈ bs → 1 ≤ b.1 ∧ b.2 < 60
def Φ__law_behind_of : PhiP := fun ds Q => ∃ (f g : Option (List Bl)) (L : Int), ds = [encF f, encF g, .int L] ∧ (∀ bs, f = some bs → bs.length ≤ 1000 ∧ low60 bs) ∧ (∀ bs, g = some bs → bs.length ≤ 1000 ∧ low60 bs) ∧ Q (encF (dueF L f g))
theorem m__law_behind_of : ∀ {ds : List PD} {Q Q' : PD → Prop}, (∀ d, Q d → Q' d) → Φ__law_behind_of ds Q → Φ__law_behind_of ds Q' := fun h ⟨f, g, L, e, l1, l2, q⟩ => ⟨f, g, L, e, l1, l2, h _ q⟩
theorem l__law_behind_of : ∀ ds Q, Φ__law_behind_of ds Q → ds.length = 3 := fun ds Q ⟨f, g, L, e, _⟩ => by rw [e]; rfl
theorem setOf_len (bs : List Bl) : (setOf bs).length ≤ 79 := by
  unfold setOf
  exact Nat.le_trans (List.length_filter_le _ _) (by decide)
theorem setOf_low {bs : List Bl} (h : low60 bs) {x : Int} (hx : x ∈ setOf bs) : 1 ≤ x ∧ x < 60 := by
  unfold setOf at hx
  rw [List.mem_filter, lies_is] at hx
  obtain ⟨_, b, hb, h1, h2⟩ := hx
  have := h b hb
  omega
theorem at__law_behind_of (T : Tp K mg) : FnAt P w K mg base "_law_behind_of" 3 (spP K Φ__law_behind_of) := by
  obtain ⟨f, fd, F, hm, hb⟩ := T.d__law_behind_of
  refine ⟨f, fd, ["near", "far", "low"], fn_p F sc__law_behind_of l__law_behind_of fun cdv A outer s H E hr => ⟨_, (dss_cons (ds_if (dt_w (dw_or (dt_cmp (hu65 hr) (de_var 0) de_non) (dw_or1 (dt_cmp (hu65 hr) (de_var 1) de_non)))) (dss_one (ds_ret de_non)) dss_nil)
    (dss_cons (ds_parC false false 3 4 rfl sc__law_behind_of.nd (de_call (at__law_set_of T) hr m__law_set_of (da_cons (de_var 0) da_nil)) (de_call (at__law_set_of T) hr m__law_set_of (da_cons (de_var 1) da_nil)))
    (dss_cons (ds_set false 5 sc__law_behind_of.nd (de_sset rfl T.sorted T.set (de_bin (de_var 3) (de_lc rfl sc__law_behind_of.nd (blkOk_by (N := ["near", "far", "low", "mine", "its", "some", "one", "two", "x"]) (sc := defScope s__law_behind_of) (own := [("x", 8)]) (by decide +kernel)) (lc_ok (di_exp (de_var 4)) (fun _ _ _ _ _ => (dg_n 8 sc__law_behind_of.nd)) (fun _ _ _ _ _ => (dp_one (dt_w (dw_or (dt_cmp (hu65 hr) (de_var 3) (de_lst da_nil)) (dw_or1 (dt_cmp (hu65 hr) (de_var 8) (de_ix (de_var 3) de_int))))))) (fun _ _ _ _ _ => (de_var 8)))))))
    (dss_cons (ds_for PassesOwn.never rfl (di_zip T.zip (da_cons (de_callTy list_ok listW_m T.list b_list (de_var 5)) (da_cons (de_sl (de_callTy list_ok listW_m T.list b_list (de_var 5)) (do_some de_int) do_none) da_nil))) (dg_t rfl (dgs_cons (dg_n 6 sc__law_behind_of.nd) (dgs_cons (dg_n 7 sc__law_behind_of.nd) dgs_nil)) (hl := gs2)) (dss_one (ds_if (dt_cmp (hu65 hr) (de_bin (de_var 7) (de_var 6)) (de_var 2)) (dss_one (ds_set false 5 sc__law_behind_of.nd (de_bin (de_var 5) (de_lrange rfl T.list T.range (de_var 6) (de_var 7))))) dss_nil)))
    (dss_one (ds_ret (de_call (at__law_blocks_of T) hr m__law_blocks_of (da_cons (de_sset rfl T.sorted T.set (de_var 5)) da_nil)))))))), fun ds Q h => ?_⟩, hm, F.kp, hb⟩
  obtain ⟨f, g, L, rfl, h1, h2, q⟩ := h
  cases f with
  | none =>
    (repeat ((conv => whnf); first | refine cnd.yes ?_ | refine cnd.no ?_ | refine cnd.decY (by first | rfl | omega) ?_ | refine cnd.decN (by omega) ?_ | refine cnd.notY (by omega) ?_ | refine cnd.notN (by first | rfl | omega) ?_ | refine cnd.decY (by simp only [List.length_cons, List.length_nil, List.length_map, List.length_append]; omega) ?_ | refine cnd.decN (by simp only [List.length_cons, List.length_nil, List.length_map, List.length_append]; omega) ?_ | refine Exists.intro _ (And.intro atI_zero ?_) | refine Exists.intro _ (And.intro atI_one ?_) | refine Exists.intro _ (And.intro (atI_last _ _) ?_) | refine Exists.intro _ (And.intro (setAt_last _ _ _) ?_) | refine Exists.intro _ (Exists.intro _ (Exists.intro _ (Exists.intro _ (And.intro rfl ?_)))) | refine Exists.intro _ (And.intro rfl ?_) | refine Exists.intro _ (Exists.intro _ (And.intro rfl ?_)) | refine Exists.intro _ (Exists.intro _ (Exists.intro _ (And.intro rfl ?_))) | refine And.intro (cdivW_small (by first | decide | omega) (by first | decide | omega)) ?_ | refine And.intro (.inl (.inl ⟨by omega, by omega⟩)) ?_ | refine And.intro (.inl (.inr ⟨by omega, by omega⟩)) ?_ | refine And.intro ⟨by decide, by decide, by decide⟩ ?_ | refine And.intro (by decide) ?_ | refine And.intro (by omega) ?_ | refine And.intro (by simp only [List.length_cons, List.length_nil]; decide) ?_ | refine And.intro (by simp only [List.length_cons, List.length_nil, List.length_map, List.length_append]; omega) ?_)); (conv => whnf)
    exact q
  | some f =>
    cases g with
    | none =>
      (repeat ((conv => whnf); first | refine cnd.yes ?_ | refine cnd.no ?_ | refine cnd.decY (by first | rfl | omega) ?_ | refine cnd.decN (by omega) ?_ | refine cnd.notY (by omega) ?_ | refine cnd.notN (by first | rfl | omega) ?_ | refine cnd.decY (by simp only [List.length_cons, List.length_nil, List.length_map, List.length_append]; omega) ?_ | refine cnd.decN (by simp only [List.length_cons, List.length_nil, List.length_map, List.length_append]; omega) ?_ | refine Exists.intro _ (And.intro atI_zero ?_) | refine Exists.intro _ (And.intro atI_one ?_) | refine Exists.intro _ (And.intro (atI_last _ _) ?_) | refine Exists.intro _ (And.intro (setAt_last _ _ _) ?_) | refine Exists.intro _ (Exists.intro _ (Exists.intro _ (Exists.intro _ (And.intro rfl ?_)))) | refine Exists.intro _ (And.intro rfl ?_) | refine Exists.intro _ (Exists.intro _ (And.intro rfl ?_)) | refine Exists.intro _ (Exists.intro _ (Exists.intro _ (And.intro rfl ?_))) | refine And.intro (cdivW_small (by first | decide | omega) (by first | decide | omega)) ?_ | refine And.intro (.inl (.inl ⟨by omega, by omega⟩)) ?_ | refine And.intro (.inl (.inr ⟨by omega, by omega⟩)) ?_ | refine And.intro ⟨by decide, by decide, by decide⟩ ?_ | refine And.intro (by decide) ?_ | refine And.intro (by omega) ?_ | refine And.intro (by simp only [List.length_cons, List.length_nil]; decide) ?_ | refine And.intro (by simp only [List.length_cons, List.length_nil, List.length_map, List.length_append]; omega) ?_)); (conv => whnf)
      exact q
    | some g =>
      obtain ⟨l1, b1⟩ := h1 f rfl
      obtain ⟨l2, b2⟩ := h2 g rfl
      have q : Q (encF (some (blocksOf (sset (sset (setOf f ++ firsts (setOf f) (setOf g)) ++ gaps L (sset (setOf f ++ firsts (setOf f) (setOf g)))))))) := q
      generalize hm : setOf f = mine at q
      generalize hi : setOf g = its at q
      have cm : ∀ x, x ∈ mine → 1 ≤ x ∧ x < 60 := fun x hx => setOf_low b1 (by rw [hm]; exact hx)
      have ci : ∀ x, x ∈ its → 1 ≤ x ∧ x < 60 := fun x hx => setOf_low b2 (by rw [hi]; exact hx)
      have lm : mine.length ≤ 79 := by rw [← hm]; exact setOf_len f
      have li : its.length ≤ 79 := by rw [← hi]; exact setOf_len g
      have q2 := q
      generalize hs : sset (mine ++ firsts mine its) = s at q
      have cs : ∀ x, x ∈ s → 1 ≤ x ∧ x < 60 := fun x hx => by
        rw [← hs, sset_mem, List.mem_append, firsts_mem] at hx
        rcases hx with hx | hx
        · exact cm x hx
        · exact ci x hx.1
      have us : up s := by rw [← hs]; exact sset_rise _
      have ls : s.length ≤ 59 := up_len us (lo := 1) (m := 59) fun x hx => by have := cs x hx; omega
      (repeat ((conv => whnf); first | refine cnd.yes ?_ | refine cnd.no ?_ | refine cnd.decY (by first | rfl | omega) ?_ | refine cnd.decN (by omega) ?_ | refine cnd.notY (by omega) ?_ | refine cnd.notN (by first | rfl | omega) ?_ | refine cnd.decY (by simp only [List.length_cons, List.length_nil, List.length_map, List.length_append]; omega) ?_ | refine cnd.decN (by simp only [List.length_cons, List.length_nil, List.length_map, List.length_append]; omega) ?_ | refine Exists.intro _ (And.intro atI_zero ?_) | refine Exists.intro _ (And.intro atI_one ?_) | refine Exists.intro _ (And.intro (atI_last _ _) ?_) | refine Exists.intro _ (And.intro (setAt_last _ _ _) ?_) | refine Exists.intro _ (Exists.intro _ (Exists.intro _ (Exists.intro _ (And.intro rfl ?_)))) | refine Exists.intro _ (And.intro rfl ?_) | refine Exists.intro _ (Exists.intro _ (And.intro rfl ?_)) | refine Exists.intro _ (Exists.intro _ (Exists.intro _ (And.intro rfl ?_))) | refine And.intro (cdivW_small (by first | decide | omega) (by first | decide | omega)) ?_ | refine And.intro (.inl (.inl ⟨by omega, by omega⟩)) ?_ | refine And.intro (.inl (.inr ⟨by omega, by omega⟩)) ?_ | refine And.intro ⟨by decide, by decide, by decide⟩ ?_ | refine And.intro (by decide) ?_ | refine And.intro (by omega) ?_ | refine And.intro (by simp only [List.length_cons, List.length_nil]; decide) ?_ | refine And.intro (by simp only [List.length_cons, List.length_nil, List.length_map, List.length_append]; omega) ?_)); (conv => whnf)
      rw [hm, hi]
      refine lcQ_map its PyData.int (fun x => mine.isEmpty || decide (x < mine.headD 0)) PyData.int (by omega) (fun x hx KK S k1 k2 => ?_) ?_
      · (repeat ((conv => whnf); first | refine cnd.yes ?_ | refine cnd.no ?_ | refine cnd.decY (by first | rfl | omega) ?_ | refine cnd.decN (by omega) ?_ | refine cnd.notY (by omega) ?_ | refine cnd.notN (by first | rfl | omega) ?_ | refine cnd.decY (by simp only [List.length_cons, List.length_nil, List.length_map, List.length_append]; omega) ?_ | refine cnd.decN (by simp only [List.length_cons, List.length_nil, List.length_map, List.length_append]; omega) ?_ | refine Exists.intro _ (And.intro atI_zero ?_) | refine Exists.intro _ (And.intro atI_one ?_) | refine Exists.intro _ (And.intro (atI_last _ _) ?_) | refine Exists.intro _ (And.intro (setAt_last _ _ _) ?_) | refine Exists.intro _ (Exists.intro _ (Exists.intro _ (Exists.intro _ (And.intro rfl ?_)))) | refine Exists.intro _ (And.intro rfl ?_) | refine Exists.intro _ (Exists.intro _ (And.intro rfl ?_)) | refine Exists.intro _ (Exists.intro _ (Exists.intro _ (And.intro rfl ?_))) | refine And.intro (cdivW_small (by first | decide | omega) (by first | decide | omega)) ?_ | refine And.intro (.inl (.inl ⟨by omega, by omega⟩)) ?_ | refine And.intro (.inl (.inr ⟨by omega, by omega⟩)) ?_ | refine And.intro ⟨by decide, by decide, by decide⟩ ?_ | refine And.intro (by decide) ?_ | refine And.intro (by omega) ?_ | refine And.intro (by simp only [List.length_cons, List.length_nil]; decide) ?_ | refine And.intro (by simp only [List.length_cons, List.length_nil, List.length_map, List.length_append]; omega) ?_)); (conv => whnf)
        refine ⟨⟨shaped_of (okN_ints _ (by omega)) (by decide), shaped_nil⟩, ?_⟩
        rw [eqv_listNil]
        cases mine with
        | nil =>
          (repeat ((conv => whnf); first | refine cnd.yes ?_ | refine cnd.no ?_ | refine cnd.decY (by first | rfl | omega) ?_ | refine cnd.decN (by omega) ?_ | refine cnd.notY (by omega) ?_ | refine cnd.notN (by first | rfl | omega) ?_ | refine cnd.decY (by simp only [List.length_cons, List.length_nil, List.length_map, List.length_append]; omega) ?_ | refine cnd.decN (by simp only [List.length_cons, List.length_nil, List.length_map, List.length_append]; omega) ?_ | refine Exists.intro _ (And.intro atI_zero ?_) | refine Exists.intro _ (And.intro atI_one ?_) | refine Exists.intro _ (And.intro (atI_last _ _) ?_) | refine Exists.intro _ (And.intro (setAt_last _ _ _) ?_) | refine Exists.intro _ (Exists.intro _ (Exists.intro _ (Exists.intro _ (And.intro rfl ?_)))) | refine Exists.intro _ (And.intro rfl ?_) | refine Exists.intro _ (Exists.intro _ (And.intro rfl ?_)) | refine Exists.intro _ (Exists.intro _ (Exists.intro _ (And.intro rfl ?_))) | refine And.intro (cdivW_small (by first | decide | omega) (by first | decide | omega)) ?_ | refine And.intro (.inl (.inl ⟨by omega, by omega⟩)) ?_ | refine And.intro (.inl (.inr ⟨by omega, by omega⟩)) ?_ | refine And.intro ⟨by decide, by decide, by decide⟩ ?_ | refine And.intro (by decide) ?_ | refine And.intro (by omega) ?_ | refine And.intro (by simp only [List.length_cons, List.length_nil]; decide) ?_ | refine And.intro (by simp only [List.length_cons, List.length_nil, List.length_map, List.length_append]; omega) ?_)); (conv => whnf)
          exact k1 rfl
        | cons b r =>
          (repeat ((conv => whnf); first | refine cnd.yes ?_ | refine cnd.no ?_ | refine cnd.decY (by first | rfl | omega) ?_ | refine cnd.decN (by omega) ?_ | refine cnd.notY (by omega) ?_ | refine cnd.notN (by first | rfl | omega) ?_ | refine cnd.decY (by simp only [List.length_cons, List.length_nil, List.length_map, List.length_append]; omega) ?_ | refine cnd.decN (by simp only [List.length_cons, List.length_nil, List.length_map, List.length_append]; omega) ?_ | refine Exists.intro _ (And.intro atI_zero ?_) | refine Exists.intro _ (And.intro atI_one ?_) | refine Exists.intro _ (And.intro (atI_last _ _) ?_) | refine Exists.intro _ (And.intro (setAt_last _ _ _) ?_) | refine Exists.intro _ (Exists.intro _ (Exists.intro _ (Exists.intro _ (And.intro rfl ?_)))) | refine Exists.intro _ (And.intro rfl ?_) | refine Exists.intro _ (Exists.intro _ (And.intro rfl ?_)) | refine Exists.intro _ (Exists.intro _ (Exists.intro _ (And.intro rfl ?_))) | refine And.intro (cdivW_small (by first | decide | omega) (by first | decide | omega)) ?_ | refine And.intro (.inl (.inl ⟨by omega, by omega⟩)) ?_ | refine And.intro (.inl (.inr ⟨by omega, by omega⟩)) ?_ | refine And.intro ⟨by decide, by decide, by decide⟩ ?_ | refine And.intro (by decide) ?_ | refine And.intro (by omega) ?_ | refine And.intro (by simp only [List.length_cons, List.length_nil]; decide) ?_ | refine And.intro (by simp only [List.length_cons, List.length_nil, List.length_map, List.length_append]; omega) ?_)); (conv => whnf)
          refine .dec (fun h => ?_) fun h => ?_
          · (repeat ((conv => whnf); first | refine cnd.yes ?_ | refine cnd.no ?_ | refine cnd.decY (by first | rfl | omega) ?_ | refine cnd.decN (by omega) ?_ | refine cnd.notY (by omega) ?_ | refine cnd.notN (by first | rfl | omega) ?_ | refine cnd.decY (by simp only [List.length_cons, List.length_nil, List.length_map, List.length_append]; omega) ?_ | refine cnd.decN (by simp only [List.length_cons, List.length_nil, List.length_map, List.length_append]; omega) ?_ | refine Exists.intro _ (And.intro atI_zero ?_) | refine Exists.intro _ (And.intro atI_one ?_) | refine Exists.intro _ (And.intro (atI_last _ _) ?_) | refine Exists.intro _ (And.intro (setAt_last _ _ _) ?_) | refine Exists.intro _ (Exists.intro _ (Exists.intro _ (Exists.intro _ (And.intro rfl ?_)))) | refine Exists.intro _ (And.intro rfl ?_) | refine Exists.intro _ (Exists.intro _ (And.intro rfl ?_)) | refine Exists.intro _ (Exists.intro _ (Exists.intro _ (And.intro rfl ?_))) | refine And.intro (cdivW_small (by first | decide | omega) (by first | decide | omega)) ?_ | refine And.intro (.inl (.inl ⟨by omega, by omega⟩)) ?_ | refine And.intro (.inl (.inr ⟨by omega, by omega⟩)) ?_ | refine And.intro ⟨by decide, by decide, by decide⟩ ?_ | refine And.intro (by decide) ?_ | refine And.intro (by omega) ?_ | refine And.intro (by simp only [List.length_cons, List.length_nil]; decide) ?_ | refine And.intro (by simp only [List.length_cons, List.length_nil, List.length_map, List.length_append]; omega) ?_)); (conv => whnf)
            exact k1 (decide_eq_true h)
          · exact k2 (decide_eq_false h)
      · have lf : (its.filter fun x => mine.isEmpty || decide (x < mine.headD 0)).length ≤ its.length := List.length_filter_le _ _
        conv => whnf
        refine ⟨by rw [List.length_map, List.length_map]; omega, ?_⟩
        conv => whnf
        refine ⟨mine ++ firsts mine its, 1, by rw [List.map_append]; rfl, by rw [List.length_append]; unfold firsts; omega, fun x hx => ?_, ?_⟩
        · rw [List.mem_append, firsts_mem] at hx
          rcases hx with hx | hx
          · have := cm x hx; omega
          · have := ci x hx.1; omega
        conv => whnf
        rw [hs, zip_next]
        refine forQ.by (s.zip s.tail) (fun p : Int × Int => .tuple [.int p.1, .int p.2]) (fun pre ρ => ∃ s6 s7 s8, ρ = [.pub (encF (some f)), .pub (encF (some g)), .pub (.int L), .pub (.list (mine.map PyData.int)), .pub (.list (its.map PyData.int)), .pub (.list ((s ++ gapsP L pre).map PyData.int)), s6, s7, s8]) ?_ ?_ ?_
        · have e0 : s ++ gapsP L [] = s := List.append_nil _
          rw [e0]
          exact ⟨_, _, _, rfl⟩
        · rintro pre ⟨x, y⟩ ρ2 ⟨post, e⟩ ⟨s6, s7, s8, rfl⟩
          have pin : ∀ p, p ∈ pre ++ [(x, y)] → p.2 - p.1 ≤ 60 := fun p hp => by
            have hz := zip_sub (s := s) (p := p) (by
              rw [e]
              rw [List.mem_append, List.mem_singleton] at hp
              rcases hp with hp | rfl
              · exact List.mem_append_left _ hp
              · exact List.mem_append_right _ List.mem_cons_self)
            have := cs _ hz.1
            have := cs _ hz.2
            omega
          have pl : pre.length + 1 ≤ 59 := by
            have := congrArg List.length e
            rw [List.length_zip, List.length_append, List.length_cons] at this
            omega
          have gl := gapsP_len (L := L) (ps := pre) fun p hp => pin p (List.mem_append_left _ hp)
          have hz := zip_sub (s := s) (p := (x, y)) (by rw [e]; exact List.mem_append_right _ List.mem_cons_self)
          have hx1 := cs _ hz.1
          have hy1 := cs _ hz.2
          rw [gapsP_snoc]
          (repeat ((conv => whnf); first | refine cnd.yes ?_ | refine cnd.no ?_ | refine cnd.decY (by first | rfl | omega) ?_ | refine cnd.decN (by omega) ?_ | refine cnd.notY (by omega) ?_ | refine cnd.notN (by first | rfl | omega) ?_ | refine cnd.decY (by simp only [List.length_cons, List.length_nil, List.length_map, List.length_append]; omega) ?_ | refine cnd.decN (by simp only [List.length_cons, List.length_nil, List.length_map, List.length_append]; omega) ?_ | refine Exists.intro _ (And.intro atI_zero ?_) | refine Exists.intro _ (And.intro atI_one ?_) | refine Exists.intro _ (And.intro (atI_last _ _) ?_) | refine Exists.intro _ (And.intro (setAt_last _ _ _) ?_) | refine Exists.intro _ (Exists.intro _ (Exists.intro _ (Exists.intro _ (And.intro rfl ?_)))) | refine Exists.intro _ (And.intro rfl ?_) | refine Exists.intro _ (Exists.intro _ (And.intro rfl ?_)) | refine Exists.intro _ (Exists.intro _ (Exists.intro _ (And.intro rfl ?_))) | refine And.intro (cdivW_small (by first | decide | omega) (by first | decide | omega)) ?_ | refine And.intro (.inl (.inl ⟨by omega, by omega⟩)) ?_ | refine And.intro (.inl (.inr ⟨by omega, by omega⟩)) ?_ | refine And.intro ⟨by decide, by decide, by decide⟩ ?_ | refine And.intro (by decide) ?_ | refine And.intro (by omega) ?_ | refine And.intro (by simp only [List.length_cons, List.length_nil]; decide) ?_ | refine And.intro (by simp only [List.length_cons, List.length_nil, List.length_map, List.length_append]; omega) ?_)); (conv => whnf)
          refine .dec (fun h => ?_) fun h => ?_
          · rw [if_pos h]
            conv => whnf
            refine ⟨⟨by omega, by omega, by omega, by omega, by omega⟩, ?_⟩
            conv => whnf
            refine ⟨by rw [List.length_map, List.length_map, List.length_append, rangeL_length]; omega, ?_⟩
            conv => whnf
            exact ⟨_, _, _, by rw [← List.append_assoc, List.map_append (l₂ := rangeL x y)]; rfl⟩
          · rw [if_neg h]
            conv => whnf
            exact ⟨_, _, _, rfl⟩
        · rintro ρ2 ⟨s6, s7, s8, rfl⟩
          have gl := gapsP_len (L := L) (ps := s.zip s.tail) fun p hp => by
            have hz := zip_sub hp
            have := cs _ hz.1
            have := cs _ hz.2
            omega
          have pl : (s.zip s.tail).length ≤ 59 := by rw [List.length_zip]; omega
          have cg : ∀ x, x ∈ s ++ gapsP L (s.zip s.tail) → 1 ≤ x ∧ x < 60 := fun x hx => by
            rw [List.mem_append] at hx
            rcases hx with hx | hx
            · exact cs x hx
            · rw [← gaps_is, gaps_mem] at hx
              obtain ⟨p, hp, _, h2, h3⟩ := hx
              have hz := zip_sub hp
              have := cs _ hz.1
              have := cs _ hz.2
              omega
          conv => whnf
          refine ⟨s ++ gapsP L (s.zip s.tail), 1, rfl, by rw [List.length_append]; omega, fun x hx => by have := cg x hx; omega, ?_⟩
          conv => whnf
          refine ⟨_, rfl, ?_, ?_⟩
          · have : (sset (s ++ gapsP L (s.zip s.tail))).length ≤ 59 := up_len (sset_rise _) (lo := 1) (m := 59) fun x hx => by
              rw [sset_mem] at hx
              have := cg x hx
              omega
            omega
          · exact q

end
end K92

set_option Elab.async false
set_option linter.all false
set_option maxRecDepth 100000
set_option maxHeartbeats 4000000


namespace K92
open PySem PySem.Spec PyProof.Rows L2 Cu Fil
section
variable {P : Program} {w : World} {K : PySem.W.Frag} {mg : Str → Option Value} {base : Heap}
/-! ### the drawn rows -/
/-- rows of limits that are not lone, from 2 L on; lone ones too -/
def rowOk (lo : Int) (r : List Int) : Prop := r.length ≤ 5 ∧ ∀ x, x ∈ r → lo ≤ x ∧ x < 60
def Φ__law_drawn_row : PhiO := fun R ds Q => ∃ (b : Addr) (r : Nat) (L : Int), R = Box b (r + 10) ∧ ds = [.int L] ∧ 1 ≤ L ∧ L ≤ 4 ∧ ∀ (row : List Int) (r' : Nat), r ≤ r' → row.length ≤ 4 → (∀ x, x ∈ row → 2 * L ≤ x ∧ x < 60) → Q (encI row) (Box b r')
theorem m__law_drawn_row : ∀ {s : Res} {ds : List PD} {Q Q' : PD → Res → Prop}, (∀ d s', Q d s' → Q' d s') → Φ__law_drawn_row s ds Q → Φ__law_drawn_row s ds Q' := fun h ⟨b, r, L, e1, e2, h0, h1, q⟩ => ⟨b, r, L, e1, e2, h0, h1, fun row r' a c d => h _ _ (q row r' a c d)⟩
theorem l__law_drawn_row : ∀ s ds Q, Φ__law_drawn_row s ds Q → ds.length + 1 = 2 := fun s ds Q ⟨b, r, L, _, e, _⟩ => by rw [e]; rfl
theorem mem4 {x a b c d : Int} (h : x ∈ [a, b, c, d]) : x = a ∨ x = b ∨ x = c ∨ x = d := by simpa using h
theorem at__law_drawn_row (T : Tp K mg) : FnAt P w K mg base "_law_drawn_row" 3 (spO K Φ__law_drawn_row) := by
  obtain ⟨f, fd, F, hm, hb⟩ := T.d__law_drawn_row
  refine ⟨f, fd, ["box", "low"], fn_o F sc__law_drawn_row l__law_drawn_row fun cdv A outer s H E hr => ⟨_, (dss_cons (ds_par false true 2 3 rfl sc__law_drawn_row.nd (de_bin (de_bin de_int (de_var 1)) (de_callO (i := 0) (at__law_take T) hr m__law_take (da_cons de_int da_nil))) (de_lst da_nil))
    (dss_cons (ds_for PassesOwn.never rfl (di_range1 T.range (da_cons (de_callO (i := 0) (at__law_take T) hr m__law_take (da_cons de_int da_nil)) da_nil)) (dg_n 4 sc__law_drawn_row.nd) (dss_one (ds_if (dt_cmp (hu65 hr) (de_var 2) (de_bin de_int (de_var 1))) (dss_cons (ds_app 3 (de_var 2))
    (dss_one (ds_set false 2 sc__law_drawn_row.nd (de_bin (de_bin (de_var 2) de_int) (de_callO (i := 0) (at__law_of T) hr m__law_of (da_cons (de_lst (da_cons de_int (da_cons (de_bin (de_var 1) de_int) (da_cons (de_var 1) (da_cons (de_callO (i := 0) (at__law_take T) hr m__law_take (da_cons (de_bin (de_bin de_int (de_var 1)) de_int) da_nil)) da_nil))))) da_nil)))))) dss_nil)))
    (dss_one (ds_ret (de_callTy tuple_ok tupleW_m T.tuple b_tuple (de_var 3)))))), fun R ds Q h => ?_⟩, hm, F.kp, hb⟩
  obtain ⟨b, r, L, rfl, rfl, h0, h1, q⟩ := h
  (repeat ((conv => whnf); first | refine cnd.yes ?_ | refine cnd.no ?_ | refine cnd.decY (by first | rfl | omega) ?_ | refine cnd.decN (by omega) ?_ | refine cnd.notY (by omega) ?_ | refine cnd.notN (by first | rfl | omega) ?_ | refine cnd.decY (by simp only [List.length_cons, List.length_nil, List.length_map, List.length_append]; omega) ?_ | refine cnd.decN (by simp only [List.length_cons, List.length_nil, List.length_map, List.length_append]; omega) ?_ | refine Exists.intro _ (And.intro atI_zero ?_) | refine Exists.intro _ (And.intro atI_one ?_) | refine Exists.intro _ (And.intro (atI_last _ _) ?_) | refine Exists.intro _ (And.intro (setAt_last _ _ _) ?_) | refine Exists.intro _ (Exists.intro _ (Exists.intro _ (Exists.intro _ (And.intro rfl ?_)))) | refine Exists.intro _ (And.intro rfl ?_) | refine Exists.intro _ (Exists.intro _ (And.intro rfl ?_)) | refine Exists.intro _ (Exists.intro _ (Exists.intro _ (And.intro rfl ?_))) | refine And.intro (cdivW_small (by first | decide | omega) (by first | decide | omega)) ?_ | refine And.intro (.inl (.inl ⟨by omega, by omega⟩)) ?_ | refine And.intro (.inl (.inr ⟨by omega, by omega⟩)) ?_ | refine And.intro ⟨by decide, by decide, by decide⟩ ?_ | refine And.intro (by decide) ?_ | refine And.intro (by omega) ?_ | refine And.intro (by simp only [List.length_cons, List.length_nil]; decide) ?_ | refine And.intro (by simp only [List.length_cons, List.length_nil, List.length_map, List.length_append]; omega) ?_)); (conv => whnf)
  refine ⟨b, r + 9, 30, rfl, rfl, by decide, by decide, fun k k0 k1 => ?_⟩
  (repeat ((conv => whnf); first | refine cnd.yes ?_ | refine cnd.no ?_ | refine cnd.decY (by first | rfl | omega) ?_ | refine cnd.decN (by omega) ?_ | refine cnd.notY (by omega) ?_ | refine cnd.notN (by first | rfl | omega) ?_ | refine cnd.decY (by simp only [List.length_cons, List.length_nil, List.length_map, List.length_append]; omega) ?_ | refine cnd.decN (by simp only [List.length_cons, List.length_nil, List.length_map, List.length_append]; omega) ?_ | refine Exists.intro _ (And.intro atI_zero ?_) | refine Exists.intro _ (And.intro atI_one ?_) | refine Exists.intro _ (And.intro (atI_last _ _) ?_) | refine Exists.intro _ (And.intro (setAt_last _ _ _) ?_) | refine Exists.intro _ (Exists.intro _ (Exists.intro _ (Exists.intro _ (And.intro rfl ?_)))) | refine Exists.intro _ (And.intro rfl ?_) | refine Exists.intro _ (Exists.intro _ (And.intro rfl ?_)) | refine Exists.intro _ (Exists.intro _ (Exists.intro _ (And.intro rfl ?_))) | refine And.intro (cdivW_small (by first | decide | omega) (by first | decide | omega)) ?_ | refine And.intro (.inl (.inl ⟨by omega, by omega⟩)) ?_ | refine And.intro (.inl (.inr ⟨by omega, by omega⟩)) ?_ | refine And.intro ⟨by decide, by decide, by decide⟩ ?_ | refine And.intro (by decide) ?_ | refine And.intro (by omega) ?_ | refine And.intro (by simp only [List.length_cons, List.length_nil]; decide) ?_ | refine And.intro (by simp only [List.length_cons, List.length_nil, List.length_map, List.length_append]; omega) ?_)); (conv => whnf)
  refine ⟨b, r + 8, 5, rfl, rfl, by decide, by decide, fun n n0 n1 => ?_⟩
  (repeat ((conv => whnf); first | refine cnd.yes ?_ | refine cnd.no ?_ | refine cnd.decY (by first | rfl | omega) ?_ | refine cnd.decN (by omega) ?_ | refine cnd.notY (by omega) ?_ | refine cnd.notN (by first | rfl | omega) ?_ | refine cnd.decY (by simp only [List.length_cons, List.length_nil, List.length_map, List.length_append]; omega) ?_ | refine cnd.decN (by simp only [List.length_cons, List.length_nil, List.length_map, List.length_append]; omega) ?_ | refine Exists.intro _ (And.intro atI_zero ?_) | refine Exists.intro _ (And.intro atI_one ?_) | refine Exists.intro _ (And.intro (atI_last _ _) ?_) | refine Exists.intro _ (And.intro (setAt_last _ _ _) ?_) | refine Exists.intro _ (Exists.intro _ (Exists.intro _ (Exists.intro _ (And.intro rfl ?_)))) | refine Exists.intro _ (And.intro rfl ?_) | refine Exists.intro _ (Exists.intro _ (And.intro rfl ?_)) | refine Exists.intro _ (Exists.intro _ (Exists.intro _ (And.intro rfl ?_))) | refine And.intro (cdivW_small (by first | decide | omega) (by first | decide | omega)) ?_ | refine And.intro (.inl (.inl ⟨by omega, by omega⟩)) ?_ | refine And.intro (.inl (.inr ⟨by omega, by omega⟩)) ?_ | refine And.intro ⟨by decide, by decide, by decide⟩ ?_ | refine And.intro (by decide) ?_ | refine And.intro (by omega) ?_ | refine And.intro (by simp only [List.length_cons, List.length_nil]; decide) ?_ | refine And.intro (by simp only [List.length_cons, List.length_nil, List.length_map, List.length_append]; omega) ?_)); (conv => whnf)
  refine forQ.by (rangeL 0 n) PyData.int (fun pre ρ => ∃ (r' : Nat) (top : Int) (row : List Int) (s4 : Slot), ρ = [.own (Box b r'), .pub (.int L), .pub (.int top), .lst (row.map PyData.int), s4] ∧ r + 8 ≤ r' + 2 * pre.length ∧ row.length ≤ pre.length ∧ (∀ x, x ∈ row → 2 * L ≤ x ∧ x < 60) ∧ top < 60) ⟨r + 8, 2 * L + k, [], _, rfl, Nat.le_refl _, Nat.le_refl _, (fun x hx => by cases hx), by omega⟩ ?_ ?_
  · rintro pre x ρ2 ⟨post, e⟩ ⟨r', top, row, s4, rfl, hr, hl, hrow, htop⟩
    have hn : pre.length < 4 := by
      have := congrArg List.length e
      rw [rangeL_length, List.length_append, List.length_cons] at this
      omega
    (repeat ((conv => whnf); first | refine cnd.yes ?_ | refine cnd.no ?_ | refine cnd.decY (by first | rfl | omega) ?_ | refine cnd.decN (by omega) ?_ | refine cnd.notY (by omega) ?_ | refine cnd.notN (by first | rfl | omega) ?_ | refine cnd.decY (by simp only [List.length_cons, List.length_nil, List.length_map, List.length_append]; omega) ?_ | refine cnd.decN (by simp only [List.length_cons, List.length_nil, List.length_map, List.length_append]; omega) ?_ | refine Exists.intro _ (And.intro atI_zero ?_) | refine Exists.intro _ (And.intro atI_one ?_) | refine Exists.intro _ (And.intro (atI_last _ _) ?_) | refine Exists.intro _ (And.intro (setAt_last _ _ _) ?_) | refine Exists.intro _ (Exists.intro _ (Exists.intro _ (Exists.intro _ (And.intro rfl ?_)))) | refine Exists.intro _ (And.intro rfl ?_) | refine Exists.intro _ (Exists.intro _ (And.intro rfl ?_)) | refine Exists.intro _ (Exists.intro _ (Exists.intro _ (And.intro rfl ?_))) | refine And.intro (cdivW_small (by first | decide | omega) (by first | decide | omega)) ?_ | refine And.intro (.inl (.inl ⟨by omega, by omega⟩)) ?_ | refine And.intro (.inl (.inr ⟨by omega, by omega⟩)) ?_ | refine And.intro ⟨by decide, by decide, by decide⟩ ?_ | refine And.intro (by decide) ?_ | refine And.intro (by omega) ?_ | refine And.intro (by simp only [List.length_cons, List.length_nil]; decide) ?_ | refine And.intro (by simp only [List.length_cons, List.length_nil, List.length_map, List.length_append]; omega) ?_)); (conv => whnf)
    refine .dec (fun h => ?_) fun h => ?_
    · (repeat ((conv => whnf); first | refine cnd.yes ?_ | refine cnd.no ?_ | refine cnd.decY (by first | rfl | omega) ?_ | refine cnd.decN (by omega) ?_ | refine cnd.notY (by omega) ?_ | refine cnd.notN (by first | rfl | omega) ?_ | refine cnd.decY (by simp only [List.length_cons, List.length_nil, List.length_map, List.length_append]; omega) ?_ | refine cnd.decN (by simp only [List.length_cons, List.length_nil, List.length_map, List.length_append]; omega) ?_ | refine Exists.intro _ (And.intro atI_zero ?_) | refine Exists.intro _ (And.intro atI_one ?_) | refine Exists.intro _ (And.intro (atI_last _ _) ?_) | refine Exists.intro _ (And.intro (setAt_last _ _ _) ?_) | refine Exists.intro _ (Exists.intro _ (Exists.intro _ (Exists.intro _ (And.intro rfl ?_)))) | refine Exists.intro _ (And.intro rfl ?_) | refine Exists.intro _ (Exists.intro _ (And.intro rfl ?_)) | refine Exists.intro _ (Exists.intro _ (Exists.intro _ (And.intro rfl ?_))) | refine And.intro (cdivW_small (by first | decide | omega) (by first | decide | omega)) ?_ | refine And.intro (.inl (.inl ⟨by omega, by omega⟩)) ?_ | refine And.intro (.inl (.inr ⟨by omega, by omega⟩)) ?_ | refine And.intro ⟨by decide, by decide, by decide⟩ ?_ | refine And.intro (by decide) ?_ | refine And.intro (by omega) ?_ | refine And.intro (by simp only [List.length_cons, List.length_nil]; decide) ?_ | refine And.intro (by simp only [List.length_cons, List.length_nil, List.length_map, List.length_append]; omega) ?_)); (conv => whnf)
      obtain ⟨r2, rfl⟩ : ∃ r2, r' = r2 + 1 + 1 := ⟨r' - 2, by omega⟩
      refine ⟨b, r2 + 1, 2 * L + 2, rfl, rfl, by omega, by omega, fun j j0 j1 => ?_⟩
      (repeat ((conv => whnf); first | refine cnd.yes ?_ | refine cnd.no ?_ | refine cnd.decY (by first | rfl | omega) ?_ | refine cnd.decN (by omega) ?_ | refine cnd.notY (by omega) ?_ | refine cnd.notN (by first | rfl | omega) ?_ | refine cnd.decY (by simp only [List.length_cons, List.length_nil, List.length_map, List.length_append]; omega) ?_ | refine cnd.decN (by simp only [List.length_cons, List.length_nil, List.length_map, List.length_append]; omega) ?_ | refine Exists.intro _ (And.intro atI_zero ?_) | refine Exists.intro _ (And.intro atI_one ?_) | refine Exists.intro _ (And.intro (atI_last _ _) ?_) | refine Exists.intro _ (And.intro (setAt_last _ _ _) ?_) | refine Exists.intro _ (Exists.intro _ (Exists.intro _ (Exists.intro _ (And.intro rfl ?_)))) | refine Exists.intro _ (And.intro rfl ?_) | refine Exists.intro _ (Exists.intro _ (And.intro rfl ?_)) | refine Exists.intro _ (Exists.intro _ (Exists.intro _ (And.intro rfl ?_))) | refine And.intro (cdivW_small (by first | decide | omega) (by first | decide | omega)) ?_ | refine And.intro (.inl (.inl ⟨by omega, by omega⟩)) ?_ | refine And.intro (.inl (.inr ⟨by omega, by omega⟩)) ?_ | refine And.intro ⟨by decide, by decide, by decide⟩ ?_ | refine And.intro (by decide) ?_ | refine And.intro (by omega) ?_ | refine And.intro (by simp only [List.length_cons, List.length_nil]; decide) ?_ | refine And.intro (by simp only [List.length_cons, List.length_nil, List.length_map, List.length_append]; omega) ?_)); (conv => whnf)
      refine ⟨b, r2, _, [0, L - 1, L, j].map PyData.int, rfl, rfl, rfl, by simp, by simp, fun d hd => ?_⟩
      obtain ⟨d, hm, rfl⟩ := List.mem_map.mp hd
      have hd0 : 0 ≤ d := by
        have := mem4 hm
        omega
      (repeat ((conv => whnf); first | refine cnd.yes ?_ | refine cnd.no ?_ | refine cnd.decY (by first | rfl | omega) ?_ | refine cnd.decN (by omega) ?_ | refine cnd.notY (by omega) ?_ | refine cnd.notN (by first | rfl | omega) ?_ | refine cnd.decY (by simp only [List.length_cons, List.length_nil, List.length_map, List.length_append]; omega) ?_ | refine cnd.decN (by simp only [List.length_cons, List.length_nil, List.length_map, List.length_append]; omega) ?_ | refine Exists.intro _ (And.intro atI_zero ?_) | refine Exists.intro _ (And.intro atI_one ?_) | refine Exists.intro _ (And.intro (atI_last _ _) ?_) | refine Exists.intro _ (And.intro (setAt_last _ _ _) ?_) | refine Exists.intro _ (Exists.intro _ (Exists.intro _ (Exists.intro _ (And.intro rfl ?_)))) | refine Exists.intro _ (And.intro rfl ?_) | refine Exists.intro _ (Exists.intro _ (And.intro rfl ?_)) | refine Exists.intro _ (Exists.intro _ (Exists.intro _ (And.intro rfl ?_))) | refine And.intro (cdivW_small (by first | decide | omega) (by first | decide | omega)) ?_ | refine And.intro (.inl (.inl ⟨by omega, by omega⟩)) ?_ | refine And.intro (.inl (.inr ⟨by omega, by omega⟩)) ?_ | refine And.intro ⟨by decide, by decide, by decide⟩ ?_ | refine And.intro (by decide) ?_ | refine And.intro (by omega) ?_ | refine And.intro (by simp only [List.length_cons, List.length_nil]; decide) ?_ | refine And.intro (by simp only [List.length_cons, List.length_nil, List.length_map, List.length_append]; omega) ?_)); (conv => whnf)
      refine ⟨r2, top - 1 - d, row ++ [top], _, by rw [getLast_map]; rfl, ?_, ?_, fun y hy => ?_, by omega⟩
      · rw [List.length_append, List.length_singleton]; omega
      · rw [List.length_append, List.length_append, List.length_singleton, List.length_singleton]; omega
      · rw [List.mem_append, List.mem_singleton] at hy
        rcases hy with hy | rfl
        · exact hrow y hy
        · omega
    · (repeat ((conv => whnf); first | refine cnd.yes ?_ | refine cnd.no ?_ | refine cnd.decY (by first | rfl | omega) ?_ | refine cnd.decN (by omega) ?_ | refine cnd.notY (by omega) ?_ | refine cnd.notN (by first | rfl | omega) ?_ | refine cnd.decY (by simp only [List.length_cons, List.length_nil, List.length_map, List.length_append]; omega) ?_ | refine cnd.decN (by simp only [List.length_cons, List.length_nil, List.length_map, List.length_append]; omega) ?_ | refine Exists.intro _ (And.intro atI_zero ?_) | refine Exists.intro _ (And.intro atI_one ?_) | refine Exists.intro _ (And.intro (atI_last _ _) ?_) | refine Exists.intro _ (And.intro (setAt_last _ _ _) ?_) | refine Exists.intro _ (Exists.intro _ (Exists.intro _ (Exists.intro _ (And.intro rfl ?_)))) | refine Exists.intro _ (And.intro rfl ?_) | refine Exists.intro _ (Exists.intro _ (And.intro rfl ?_)) | refine Exists.intro _ (Exists.intro _ (Exists.intro _ (And.intro rfl ?_))) | refine And.intro (cdivW_small (by first | decide | omega) (by first | decide | omega)) ?_ | refine And.intro (.inl (.inl ⟨by omega, by omega⟩)) ?_ | refine And.intro (.inl (.inr ⟨by omega, by omega⟩)) ?_ | refine And.intro ⟨by decide, by decide, by decide⟩ ?_ | refine And.intro (by decide) ?_ | refine And.intro (by omega) ?_ | refine And.intro (by simp only [List.length_cons, List.length_nil]; decide) ?_ | refine And.intro (by simp only [List.length_cons, List.length_nil, List.length_map, List.length_append]; omega) ?_)); (conv => whnf)
      exact htop
  · rintro ρ2 ⟨r', top, row, s4, rfl, hr, hl, hrow, htop⟩
    rw [rangeL_length] at hr hl
    (repeat ((conv => whnf); first | refine cnd.yes ?_ | refine cnd.no ?_ | refine cnd.decY (by first | rfl | omega) ?_ | refine cnd.decN (by omega) ?_ | refine cnd.notY (by omega) ?_ | refine cnd.notN (by first | rfl | omega) ?_ | refine cnd.decY (by simp only [List.length_cons, List.length_nil, List.length_map, List.length_append]; omega) ?_ | refine cnd.decN (by simp only [List.length_cons, List.length_nil, List.length_map, List.length_append]; omega) ?_ | refine Exists.intro _ (And.intro atI_zero ?_) | refine Exists.intro _ (And.intro atI_one ?_) | refine Exists.intro _ (And.intro (atI_last _ _) ?_) | refine Exists.intro _ (And.intro (setAt_last _ _ _) ?_) | refine Exists.intro _ (Exists.intro _ (Exists.intro _ (Exists.intro _ (And.intro rfl ?_)))) | refine Exists.intro _ (And.intro rfl ?_) | refine Exists.intro _ (Exists.intro _ (And.intro rfl ?_)) | refine Exists.intro _ (Exists.intro _ (Exists.intro _ (And.intro rfl ?_))) | refine And.intro (cdivW_small (by first | decide | omega) (by first | decide | omega)) ?_ | refine And.intro (.inl (.inl ⟨by omega, by omega⟩)) ?_ | refine And.intro (.inl (.inr ⟨by omega, by omega⟩)) ?_ | refine And.intro ⟨by decide, by decide, by decide⟩ ?_ | refine And.intro (by decide) ?_ | refine And.intro (by omega) ?_ | refine And.intro (by simp only [List.length_cons, List.length_nil]; decide) ?_ | refine And.intro (by simp only [List.length_cons, List.length_nil, List.length_map, List.length_append]; omega) ?_)); (conv => whnf)
    exact ⟨rfl, q row r' (by omega) (by omega) hrow⟩
def Φ__law_shown : PhiO := fun R ds Q => ∃ (b : Addr) (r : Nat) (L : Int) (row : List Int), R = Box b (r + 1) ∧ ds = [encI row, .int L] ∧ 1 ≤ L ∧ L ≤ 4 ∧ row.length ≤ 4 ∧ (∀ x, x ∈ row → 2 * L ≤ x ∧ x < 60) ∧ ∀ (row' : List Int), rowOk 1 row' → Q (encI row') (Box b r)
theorem m__law_shown : ∀ {s : Res} {ds : List PD} {Q Q' : PD → Res → Prop}, (∀ d s', Q d s' → Q' d s') → Φ__law_shown s ds Q → Φ__law_shown s ds Q' := fun h ⟨b, r, L, row, e1, e2, h0, h1, h2, h3, q⟩ => ⟨b, r, L, row, e1, e2, h0, h1, h2, h3, fun row' a => h _ _ (q row' a)⟩
theorem l__law_shown : ∀ s ds Q, Φ__law_shown s ds Q → ds.length + 1 = 3 := fun s ds Q ⟨b, r, L, row, _, e, _⟩ => by rw [e]; rfl
theorem at__law_shown (T : Tp K mg) : FnAt P w K mg base "_law_shown" 2 (spO K Φ__law_shown) := by
  obtain ⟨f, fd, F, hm, hb⟩ := T.d__law_shown
  refine ⟨f, fd, ["box", "row", "low"], fn_o F sc__law_shown l__law_shown fun cdv A outer s H E hr => ⟨_, (dss_one (ds_ret (de_if (dt_cmp (hu65 hr) (de_callO (i := 0) (at__law_take T) hr m__law_take (da_cons de_int da_nil)) de_int) (de_bin (de_var 1) (de_tup (da_cons (de_bin (de_bin de_int (de_var 2)) de_int) da_nil))) (de_var 1)))), fun R ds Q h => ?_⟩, hm, F.kp, hb⟩
  obtain ⟨b, r, L, row, rfl, rfl, h0, h1, h2, h3, q⟩ := h
  (repeat ((conv => whnf); first | refine cnd.yes ?_ | refine cnd.no ?_ | refine cnd.decY (by first | rfl | omega) ?_ | refine cnd.decN (by omega) ?_ | refine cnd.notY (by omega) ?_ | refine cnd.notN (by first | rfl | omega) ?_ | refine cnd.decY (by simp only [List.length_cons, List.length_nil, List.length_map, List.length_append]; omega) ?_ | refine cnd.decN (by simp only [List.length_cons, List.length_nil, List.length_map, List.length_append]; omega) ?_ | refine Exists.intro _ (And.intro atI_zero ?_) | refine Exists.intro _ (And.intro atI_one ?_) | refine Exists.intro _ (And.intro (atI_last _ _) ?_) | refine Exists.intro _ (And.intro (setAt_last _ _ _) ?_) | refine Exists.intro _ (Exists.intro _ (Exists.intro _ (Exists.intro _ (And.intro rfl ?_)))) | refine Exists.intro _ (And.intro rfl ?_) | refine Exists.intro _ (Exists.intro _ (And.intro rfl ?_)) | refine Exists.intro _ (Exists.intro _ (Exists.intro _ (And.intro rfl ?_))) | refine And.intro (cdivW_small (by first | decide | omega) (by first | decide | omega)) ?_ | refine And.intro (.inl (.inl ⟨by omega, by omega⟩)) ?_ | refine And.intro (.inl (.inr ⟨by omega, by omega⟩)) ?_ | refine And.intro ⟨by decide, by decide, by decide⟩ ?_ | refine And.intro (by decide) ?_ | refine And.intro (by omega) ?_ | refine And.intro (by simp only [List.length_cons, List.length_nil]; decide) ?_ | refine And.intro (by simp only [List.length_cons, List.length_nil, List.length_map, List.length_append]; omega) ?_)); (conv => whnf)
  refine ⟨b, r, 6, rfl, rfl, by decide, by decide, fun k k0 k1 => ?_⟩
  (repeat ((conv => whnf); first | refine cnd.yes ?_ | refine cnd.no ?_ | refine cnd.decY (by first | rfl | omega) ?_ | refine cnd.decN (by omega) ?_ | refine cnd.notY (by omega) ?_ | refine cnd.notN (by first | rfl | omega) ?_ | refine cnd.decY (by simp only [List.length_cons, List.length_nil, List.length_map, List.length_append]; omega) ?_ | refine cnd.decN (by simp only [List.length_cons, List.length_nil, List.length_map, List.length_append]; omega) ?_ | refine Exists.intro _ (And.intro atI_zero ?_) | refine Exists.intro _ (And.intro atI_one ?_) | refine Exists.intro _ (And.intro (atI_last _ _) ?_) | refine Exists.intro _ (And.intro (setAt_last _ _ _) ?_) | refine Exists.intro _ (Exists.intro _ (Exists.intro _ (Exists.intro _ (And.intro rfl ?_)))) | refine Exists.intro _ (And.intro rfl ?_) | refine Exists.intro _ (Exists.intro _ (And.intro rfl ?_)) | refine Exists.intro _ (Exists.intro _ (Exists.intro _ (And.intro rfl ?_))) | refine And.intro (cdivW_small (by first | decide | omega) (by first | decide | omega)) ?_ | refine And.intro (.inl (.inl ⟨by omega, by omega⟩)) ?_ | refine And.intro (.inl (.inr ⟨by omega, by omega⟩)) ?_ | refine And.intro ⟨by decide, by decide, by decide⟩ ?_ | refine And.intro (by decide) ?_ | refine And.intro (by omega) ?_ | refine And.intro (by simp only [List.length_cons, List.length_nil]; decide) ?_ | refine And.intro (by simp only [List.length_cons, List.length_nil, List.length_map, List.length_append]; omega) ?_)); (conv => whnf)
  refine .dec (fun h => ?_) fun h => ?_
  · conv => whnf
    refine ⟨.inl (.inl ⟨by decide, by decide⟩), ?_⟩
    conv => whnf
    refine ⟨by simp, ?_⟩
    conv => whnf
    refine ⟨by rw [List.length_map]; show row.length + 1 ≤ 16000000; omega, ?_⟩
    conv => whnf
    refine ⟨rfl, ?_⟩
    have := q (row ++ [2 * L - 1]) ⟨by rw [List.length_append, List.length_singleton]; omega, fun x hx => by
      rw [List.mem_append, List.mem_singleton] at hx
      rcases hx with hx | rfl
      · have := h3 x hx; omega
      · omega⟩
    unfold encI at this
    rw [getLast_map] at this
    exact this
  · (repeat ((conv => whnf); first | refine cnd.yes ?_ | refine cnd.no ?_ | refine cnd.decY (by first | rfl | omega) ?_ | refine cnd.decN (by omega) ?_ | refine cnd.notY (by omega) ?_ | refine cnd.notN (by first | rfl | omega) ?_ | refine cnd.decY (by simp only [List.length_cons, List.length_nil, List.length_map, List.length_append]; omega) ?_ | refine cnd.decN (by simp only [List.length_cons, List.length_nil, List.length_map, List.length_append]; omega) ?_ | refine Exists.intro _ (And.intro atI_zero ?_) | refine Exists.intro _ (And.intro atI_one ?_) | refine Exists.intro _ (And.intro (atI_last _ _) ?_) | refine Exists.intro _ (And.intro (setAt_last _ _ _) ?_) | refine Exists.intro _ (Exists.intro _ (Exists.intro _ (Exists.intro _ (And.intro rfl ?_)))) | refine Exists.intro _ (And.intro rfl ?_) | refine Exists.intro _ (Exists.intro _ (And.intro rfl ?_)) | refine Exists.intro _ (Exists.intro _ (Exists.intro _ (And.intro rfl ?_))) | refine And.intro (cdivW_small (by first | decide | omega) (by first | decide | omega)) ?_ | refine And.intro (.inl (.inl ⟨by omega, by omega⟩)) ?_ | refine And.intro (.inl (.inr ⟨by omega, by omega⟩)) ?_ | refine And.intro ⟨by decide, by decide, by decide⟩ ?_ | refine And.intro (by decide) ?_ | refine And.intro (by omega) ?_ | refine And.intro (by simp only [List.length_cons, List.length_nil]; decide) ?_ | refine And.intro (by simp only [List.length_cons, List.length_nil, List.length_map, List.length_append]; omega) ?_)); (conv => whnf)
    exact ⟨rfl, q row ⟨by omega, fun x hx => by have := h3 x hx; omega⟩⟩
theorem zip_pairwise {α : Type} {R : α → α → Prop} : ∀ {l : List α}, l.Pairwise R → ∀ p, p ∈ l.zip l.tail → R p.1 p.2
  | [], _, p, h => by cases h
  | [a], _, p, h => by cases h
  | a :: b :: t, hp, p, h => by
    rcases List.mem_cons.mp (show p ∈ (a, b) :: (b :: t).zip t from h) with rfl | h
    · exact (List.pairwise_cons.mp hp).1 b List.mem_cons_self
    · exact zip_pairwise (List.pairwise_cons.mp hp).2 p h
theorem valid_fill {L : Int} (hL : 1 ≤ L) {r : List Int} (o : ∀ x, x ∈ r → 1 ≤ x) {bs : List Bl} (e : fillF L r = some bs) : validB L bs = true := by
  unfold fillF at e
  split at e
  · cases e
  rename_i hlone
  cases e
  have hu := asc_up r
  obtain ⟨ap, hin, _, _, hhead⟩ := J_is (L := L) (by omega) _ hu
  unfold validB
  rw [Bool.and_eq_true, Bool.and_eq_true]
  refine ⟨⟨?_, ?_⟩, ?_⟩
  · rw [List.all_eq_true]
    intro b hb
    have h2 := ap.2 b hb
    obtain ⟨p, _, hp, _, h3, _, _⟩ := (hin b.1).mp ⟨b, hb, Int.le_refl _, h2⟩
    have := o p (asc_sub hp)
    unfold okB
    rw [decide_eq_true (show 1 ≤ b.1 by omega), decide_eq_true (show 1 ≤ b.2 by omega), decide_eq_true h2]
    rfl
  · cases ha : asc r with
    | nil => rfl
    | cons b t =>
      obtain ⟨h, c, hj⟩ := hhead b t ha
      rw [ha] at hj
      rw [hj]
      refine decide_eq_true ?_
      have hb : b ∈ r := asc_sub (by rw [ha]; exact List.mem_cons_self)
      show 2 * L ≤ b
      refine Classical.byContradiction fun z => hlone ?_
      unfold lone
      rw [List.any_eq_true]
      exact ⟨b, hb, decide_eq_true (by omega)⟩
  · rw [List.all_eq_true]
    intro p hp
    exact decide_eq_true (zip_pairwise ap.1 p hp)
def Φ__law_three_right : PhiP := fun ds Q => ∃ (r1 r2 r3 : List Int) (L : Int), ds = [.list [encI r1, encI r2, encI r3], .int L] ∧ 1 ≤ L ∧ L ≤ 4 ∧ rowOk 1 r1 ∧ rowOk 1 r2 ∧ rowOk 1 r3 ∧ Q (.bool true)
theorem m__law_three_right : ∀ {ds : List PD} {Q Q' : PD → Prop}, (∀ d, Q d → Q' d) → Φ__law_three_right ds Q → Φ__law_three_right ds Q' := fun h ⟨r1, r2, r3, L, e, a, b, c, d, f, q⟩ => ⟨r1, r2, r3, L, e, a, b, c, d, f, h _ q⟩
theorem l__law_three_right : ∀ ds Q, Φ__law_three_right ds Q → ds.length = 2 := fun ds Q ⟨r1, r2, r3, L, e, _⟩ => by rw [e]; rfl
theorem at__law_three_right (T : Tp K mg) : FnAt P w K mg base "_law_three_right" 8 (spP K Φ__law_three_right) := by
  obtain ⟨f, fd, F, hm, hb⟩ := T.d__law_three_right
  refine ⟨f, fd, ["rows", "low"], fn_p F sc__law_three_right l__law_three_right fun cdv A outer s H E hr => ⟨_, (dss_cons (ds_setLc false 2 rfl sc__law_three_right.nd (blkOk_by (N := ["rows", "low", "own", "near", "far", "due", "got", "one", "two", "three", "row", "its"]) (sc := defScope s__law_three_right) (own := [("row", 10)]) (by decide +kernel)) (lc_ok (di_exp (de_var 0)) (fun _ _ _ _ _ => (dg_n 10 sc__law_three_right.nd)) (fun _ _ _ _ _ => dp_nil) (fun _ _ _ _ _ => (de_call (at__law_blocks T) hr m__law_blocks (da_cons (de_var 10) (da_cons (de_var 1) da_nil))))))
    (dss_cons (ds_if (dt_not (dt_val (de_call (at__law_same T 6) hr (m__law_same 6) (da_cons (de_lst (da_cons (de_lc rfl sc__law_three_right.nd (blkOk_by (N := ["rows", "low", "own", "near", "far", "due", "got", "one", "two", "three", "row", "its"]) (sc := defScope s__law_three_right) (own := [("row", 10)]) (by decide +kernel)) (lc_ok (di_exp (de_var 0)) (fun _ _ _ _ _ => (dg_n 10 sc__law_three_right.nd)) (fun _ _ _ _ _ => dp_nil) (fun _ _ _ _ _ => (de_call (at_filling T) hr m_filling (da_cons (de_var 10) (da_cons (de_var 1) da_nil)))))) (da_cons (de_lc rfl sc__law_three_right.nd (blkOk_by (N := ["rows", "low", "own", "near", "far", "due", "got", "one", "two", "three", "row", "its"]) (sc := defScope s__law_three_right) (own := [("its", 11)]) (by decide +kernel)) (lc_ok (di_exp (de_var 2)) (fun _ _ _ _ _ => (dg_n 11 sc__law_three_right.nd)) (fun _ _ _ _ _ => dp_nil) (fun _ _ _ _ _ => (de_call (at_is_filling T) hr m_is_filling (da_cons (de_var 1) (da_cons (de_var 11) da_nil)))))) da_nil))) (da_cons (de_lst (da_cons (de_var 2) (da_cons (de_bin (de_lst (da_cons de_bl da_nil)) de_int) da_nil))) da_nil))))) (dss_one (ds_ret de_bl)) dss_nil)
    (dss_cons (ds_for PassesOwn.never rfl (di_range1 T.range (da_cons de_int da_nil)) (dg_n 3 sc__law_three_right.nd) (dss_one (ds_for PassesOwn.never rfl (di_range1 T.range (da_cons de_int da_nil)) (dg_n 4 sc__law_three_right.nd) (dss_cons (ds_set false 5 sc__law_three_right.nd (de_call (at__law_behind_of T) hr m__law_behind_of (da_cons (de_ix (de_var 2) (de_var 3)) (da_cons (de_ix (de_var 2) (de_var 4)) (da_cons (de_var 1) da_nil)))))
    (dss_cons (ds_set false 6 sc__law_three_right.nd (de_lst (da_cons (de_call (at_behind T) hr m_behind (da_cons (de_ix (de_var 2) (de_var 3)) (da_cons (de_ix (de_var 2) (de_var 4)) (da_cons (de_var 1) da_nil)))) (da_cons (de_call (at_filling T) hr m_filling (da_cons (de_bin (de_ix (de_var 0) (de_var 3)) (de_ix (de_var 0) (de_var 4))) (da_cons (de_var 1) da_nil))) (da_cons (de_call (at_behind T) hr m_behind (da_cons (de_ix (de_var 2) (de_var 3)) (da_cons (de_ix (de_var 2) (de_var 3)) (da_cons (de_var 1) da_nil)))) da_nil)))))
    (dss_one (ds_if (dt_not (dt_val (de_call (at__law_same T 6) hr (m__law_same 6) (da_cons (de_var 6) (da_cons (de_lst (da_cons (de_var 5) (da_cons (de_var 5) (da_cons (de_ix (de_var 2) (de_var 3)) da_nil)))) da_nil))))) (dss_one (ds_ret de_bl)) dss_nil)))))))
    (dss_cons (ds_asg (de_var 2) (dg_l rfl (dgs_cons (dg_n 7 sc__law_three_right.nd) (dgs_cons (dg_n 8 sc__law_three_right.nd) (dgs_cons (dg_n 9 sc__law_three_right.nd) dgs_nil))) (hl := gs3)))
    (dss_cons (ds_set false 6 sc__law_three_right.nd (de_lst (da_cons (de_call (at_behind T) hr m_behind (da_cons (de_call (at_behind T) hr m_behind (da_cons (de_var 7) (da_cons (de_var 8) (da_cons (de_var 1) da_nil)))) (da_cons (de_var 9) (da_cons (de_var 1) da_nil)))) (da_cons (de_call (at_behind T) hr m_behind (da_cons (de_tup da_nil) (da_cons (de_var 7) (da_cons (de_var 1) da_nil)))) (da_cons (de_call (at_behind T) hr m_behind (da_cons (de_var 7) (da_cons (de_tup da_nil) (da_cons (de_var 1) da_nil)))) (da_cons (de_call (at_behind T) hr m_behind (da_cons de_non (da_cons (de_var 7) (da_cons (de_var 1) da_nil)))) (da_cons (de_call (at_behind T) hr m_behind (da_cons (de_var 7) (da_cons de_non (da_cons (de_var 1) da_nil)))) da_nil)))))))
    (dss_one (ds_ret (de_call (at__law_same T 6) hr (m__law_same 6) (da_cons (de_var 6) (da_cons (de_lst (da_cons (de_call (at_behind T) hr m_behind (da_cons (de_var 7) (da_cons (de_call (at_behind T) hr m_behind (da_cons (de_var 8) (da_cons (de_var 9) (da_cons (de_var 1) da_nil)))) (da_cons (de_var 1) da_nil)))) (da_cons (de_var 7) (da_cons (de_var 7) (da_cons de_non (da_cons de_non da_nil)))))) da_nil)))))))))), fun ds Q h => ?_⟩, hm, F.kp, hb⟩
  obtain ⟨r1, r2, r3, L, rfl, hL, hL4, o1, o2, o3, q⟩ := h
  have bnd : ∀ {r : List Int}, rowOk 1 r → ∀ x, x ∈ r → 1 ≤ x ∧ x < 80 := fun o x hx => by have := o.2 x hx; omega
  have len : ∀ {r : List Int}, rowOk 1 r → ∀ bs, fillF L r = some bs → bs.length ≤ 5 := fun o bs e => Nat.le_trans (fill_len e) o.1
  have low : ∀ {r : List Int}, rowOk 1 r → ∀ bs, fillF L r = some bs → low60 bs := fun {r} o bs e => by
    unfold fillF at e
    split at e
    · cases e
    · cases e
      have hu := asc_up r
      have hb : ∀ x, x ∈ asc r → x < 60 := fun x hx => (o.2 x (asc_sub hx)).2
      intro b hb2
      have h2 := J_low (L := L) (by omega) hu hb b hb2
      obtain ⟨p, _, hp, _, h3, _, _⟩ := ((J_is (L := L) (by omega) _ hu).2.1 b.1).mp ⟨b, hb2, Int.le_refl _, h2.1⟩
      have := o.2 p (asc_sub hp)
      omega
  have val : ∀ {r : List Int}, rowOk 1 r → ∀ bs, fillF L r = some bs → validB L bs = true := fun {r} o bs e => valid_fill hL (fun x hx => (o.2 x hx).1) e
  (repeat ((conv => whnf); first | refine cnd.yes ?_ | refine cnd.no ?_ | refine cnd.decY (by first | rfl | omega) ?_ | refine cnd.decN (by omega) ?_ | refine cnd.notY (by omega) ?_ | refine cnd.notN (by first | rfl | omega) ?_ | refine cnd.decY (by simp only [List.length_cons, List.length_nil, List.length_map, List.length_append]; omega) ?_ | refine cnd.decN (by simp only [List.length_cons, List.length_nil, List.length_map, List.length_append]; omega) ?_ | refine Exists.intro _ (And.intro atI_zero ?_) | refine Exists.intro _ (And.intro atI_one ?_) | refine Exists.intro _ (And.intro (atI_last _ _) ?_) | refine Exists.intro _ (And.intro (setAt_last _ _ _) ?_) | refine Exists.intro _ (Exists.intro _ (Exists.intro _ (Exists.intro _ (And.intro rfl ?_)))) | refine Exists.intro _ (And.intro rfl ?_) | refine Exists.intro _ (Exists.intro _ (And.intro rfl ?_)) | refine Exists.intro _ (Exists.intro _ (Exists.intro _ (And.intro rfl ?_))) | refine And.intro (cdivW_small (by first | decide | omega) (by first | decide | omega)) ?_ | refine And.intro (.inl (.inl ⟨by omega, by omega⟩)) ?_ | refine And.intro (.inl (.inr ⟨by omega, by omega⟩)) ?_ | refine And.intro ⟨by decide, by decide, by decide⟩ ?_ | refine And.intro (by decide) ?_ | refine And.intro (by omega) ?_ | refine And.intro (by simp only [List.length_cons, List.length_nil]; decide) ?_ | refine And.intro (by simp only [List.length_cons, List.length_nil, List.length_map, List.length_append]; omega) ?_)); (conv => whnf)
  refine lcQ_all [r1, r2, r3] encI (fun r => encF (fillF L r)) (by simp) (fun r hr KK S hK => ?_) ?_
  · have o : rowOk 1 r := by
      simp only [List.mem_cons, List.not_mem_nil, or_false] at hr
      rcases hr with rfl | rfl | rfl <;> assumption
    have := o.1
    (repeat ((conv => whnf); first | refine cnd.yes ?_ | refine cnd.no ?_ | refine cnd.decY (by first | rfl | omega) ?_ | refine cnd.decN (by omega) ?_ | refine cnd.notY (by omega) ?_ | refine cnd.notN (by first | rfl | omega) ?_ | refine cnd.decY (by simp only [List.length_cons, List.length_nil, List.length_map, List.length_append]; omega) ?_ | refine cnd.decN (by simp only [List.length_cons, List.length_nil, List.length_map, List.length_append]; omega) ?_ | refine Exists.intro _ (And.intro atI_zero ?_) | refine Exists.intro _ (And.intro atI_one ?_) | refine Exists.intro _ (And.intro (atI_last _ _) ?_) | refine Exists.intro _ (And.intro (setAt_last _ _ _) ?_) | refine Exists.intro _ (Exists.intro _ (Exists.intro _ (Exists.intro _ (And.intro rfl ?_)))) | refine Exists.intro _ (And.intro rfl ?_) | refine Exists.intro _ (Exists.intro _ (And.intro rfl ?_)) | refine Exists.intro _ (Exists.intro _ (Exists.intro _ (And.intro rfl ?_))) | refine And.intro (cdivW_small (by first | decide | omega) (by first | decide | omega)) ?_ | refine And.intro (.inl (.inl ⟨by omega, by omega⟩)) ?_ | refine And.intro (.inl (.inr ⟨by omega, by omega⟩)) ?_ | refine And.intro ⟨by decide, by decide, by decide⟩ ?_ | refine And.intro (by decide) ?_ | refine And.intro (by omega) ?_ | refine And.intro (by simp only [List.length_cons, List.length_nil]; decide) ?_ | refine And.intro (by simp only [List.length_cons, List.length_nil, List.length_map, List.length_append]; omega) ?_)); (conv => whnf)
    exact hK
  · (repeat ((conv => whnf); first | refine cnd.yes ?_ | refine cnd.no ?_ | refine cnd.decY (by first | rfl | omega) ?_ | refine cnd.decN (by omega) ?_ | refine cnd.notY (by omega) ?_ | refine cnd.notN (by first | rfl | omega) ?_ | refine cnd.decY (by simp only [List.length_cons, List.length_nil, List.length_map, List.length_append]; omega) ?_ | refine cnd.decN (by simp only [List.length_cons, List.length_nil, List.length_map, List.length_append]; omega) ?_ | refine Exists.intro _ (And.intro atI_zero ?_) | refine Exists.intro _ (And.intro atI_one ?_) | refine Exists.intro _ (And.intro (atI_last _ _) ?_) | refine Exists.intro _ (And.intro (setAt_last _ _ _) ?_) | refine Exists.intro _ (Exists.intro _ (Exists.intro _ (Exists.intro _ (And.intro rfl ?_)))) | refine Exists.intro _ (And.intro rfl ?_) | refine Exists.intro _ (Exists.intro _ (And.intro rfl ?_)) | refine Exists.intro _ (Exists.intro _ (Exists.intro _ (And.intro rfl ?_))) | refine And.intro (cdivW_small (by first | decide | omega) (by first | decide | omega)) ?_ | refine And.intro (.inl (.inl ⟨by omega, by omega⟩)) ?_ | refine And.intro (.inl (.inr ⟨by omega, by omega⟩)) ?_ | refine And.intro ⟨by decide, by decide, by decide⟩ ?_ | refine And.intro (by decide) ?_ | refine And.intro (by omega) ?_ | refine And.intro (by simp only [List.length_cons, List.length_nil]; decide) ?_ | refine And.intro (by simp only [List.length_cons, List.length_nil, List.length_map, List.length_append]; omega) ?_)); (conv => whnf)
    refine lcQ_all [r1, r2, r3] encI (fun r => encF (fillF L r)) (by simp) (fun r hr KK S hK => ?_) ?_
    · have o : rowOk 1 r := by
        simp only [List.mem_cons, List.not_mem_nil, or_false] at hr
        rcases hr with rfl | rfl | rfl <;> assumption
      have := o.1
      (repeat ((conv => whnf); first | refine cnd.yes ?_ | refine cnd.no ?_ | refine cnd.decY (by first | rfl | omega) ?_ | refine cnd.decN (by omega) ?_ | refine cnd.notY (by omega) ?_ | refine cnd.notN (by first | rfl | omega) ?_ | refine cnd.decY (by simp only [List.length_cons, List.length_nil, List.length_map, List.length_append]; omega) ?_ | refine cnd.decN (by simp only [List.length_cons, List.length_nil, List.length_map, List.length_append]; omega) ?_ | refine Exists.intro _ (And.intro atI_zero ?_) | refine Exists.intro _ (And.intro atI_one ?_) | refine Exists.intro _ (And.intro (atI_last _ _) ?_) | refine Exists.intro _ (And.intro (setAt_last _ _ _) ?_) | refine Exists.intro _ (Exists.intro _ (Exists.intro _ (Exists.intro _ (And.intro rfl ?_)))) | refine Exists.intro _ (And.intro rfl ?_) | refine Exists.intro _ (Exists.intro _ (And.intro rfl ?_)) | refine Exists.intro _ (Exists.intro _ (Exists.intro _ (And.intro rfl ?_))) | refine And.intro (cdivW_small (by first | decide | omega) (by first | decide | omega)) ?_ | refine And.intro (.inl (.inl ⟨by omega, by omega⟩)) ?_ | refine And.intro (.inl (.inr ⟨by omega, by omega⟩)) ?_ | refine And.intro ⟨by decide, by decide, by decide⟩ ?_ | refine And.intro (by decide) ?_ | refine And.intro (by omega) ?_ | refine And.intro (by simp only [List.length_cons, List.length_nil]; decide) ?_ | refine And.intro (by simp only [List.length_cons, List.length_nil, List.length_map, List.length_append]; omega) ?_)); (conv => whnf)
      exact hK
    · (repeat ((conv => whnf); first | refine cnd.yes ?_ | refine cnd.no ?_ | refine cnd.decY (by first | rfl | omega) ?_ | refine cnd.decN (by omega) ?_ | refine cnd.notY (by omega) ?_ | refine cnd.notN (by first | rfl | omega) ?_ | refine cnd.decY (by simp only [List.length_cons, List.length_nil, List.length_map, List.length_append]; omega) ?_ | refine cnd.decN (by simp only [List.length_cons, List.length_nil, List.length_map, List.length_append]; omega) ?_ | refine Exists.intro _ (And.intro atI_zero ?_) | refine Exists.intro _ (And.intro atI_one ?_) | refine Exists.intro _ (And.intro (atI_last _ _) ?_) | refine Exists.intro _ (And.intro (setAt_last _ _ _) ?_) | refine Exists.intro _ (Exists.intro _ (Exists.intro _ (Exists.intro _ (And.intro rfl ?_)))) | refine Exists.intro _ (And.intro rfl ?_) | refine Exists.intro _ (Exists.intro _ (And.intro rfl ?_)) | refine Exists.intro _ (Exists.intro _ (Exists.intro _ (And.intro rfl ?_))) | refine And.intro (cdivW_small (by first | decide | omega) (by first | decide | omega)) ?_ | refine And.intro (.inl (.inl ⟨by omega, by omega⟩)) ?_ | refine And.intro (.inl (.inr ⟨by omega, by omega⟩)) ?_ | refine And.intro ⟨by decide, by decide, by decide⟩ ?_ | refine And.intro (by decide) ?_ | refine And.intro (by omega) ?_ | refine And.intro (by simp only [List.length_cons, List.length_nil]; decide) ?_ | refine And.intro (by simp only [List.length_cons, List.length_nil, List.length_map, List.length_append]; omega) ?_)); (conv => whnf)
      refine lcQ_all [r1, r2, r3] (fun r => encF (fillF L r)) (fun r => .bool true) (by simp) (fun r hr KK S hK => ?_) ?_
      · have o : rowOk 1 r := by
          simp only [List.mem_cons, List.not_mem_nil, or_false] at hr
          rcases hr with rfl | rfl | rfl <;> assumption
        (repeat ((conv => whnf); first | refine cnd.yes ?_ | refine cnd.no ?_ | refine cnd.decY (by first | rfl | omega) ?_ | refine cnd.decN (by omega) ?_ | refine cnd.notY (by omega) ?_ | refine cnd.notN (by first | rfl | omega) ?_ | refine cnd.decY (by simp only [List.length_cons, List.length_nil, List.length_map, List.length_append]; omega) ?_ | refine cnd.decN (by simp only [List.length_cons, List.length_nil, List.length_map, List.length_append]; omega) ?_ | refine Exists.intro _ (And.intro atI_zero ?_) | refine Exists.intro _ (And.intro atI_one ?_) | refine Exists.intro _ (And.intro (atI_last _ _) ?_) | refine Exists.intro _ (And.intro (setAt_last _ _ _) ?_) | refine Exists.intro _ (Exists.intro _ (Exists.intro _ (Exists.intro _ (And.intro rfl ?_)))) | refine Exists.intro _ (And.intro rfl ?_) | refine Exists.intro _ (Exists.intro _ (And.intro rfl ?_)) | refine Exists.intro _ (Exists.intro _ (Exists.intro _ (And.intro rfl ?_))) | refine And.intro (cdivW_small (by first | decide | omega) (by first | decide | omega)) ?_ | refine And.intro (.inl (.inl ⟨by omega, by omega⟩)) ?_ | refine And.intro (.inl (.inr ⟨by omega, by omega⟩)) ?_ | refine And.intro ⟨by decide, by decide, by decide⟩ ?_ | refine And.intro (by decide) ?_ | refine And.intro (by omega) ?_ | refine And.intro (by simp only [List.length_cons, List.length_nil]; decide) ?_ | refine And.intro (by simp only [List.length_cons, List.length_nil, List.length_map, List.length_append]; omega) ?_)); (conv => whnf)
        cases hf : fillF L r with
        | none => exact ⟨L, .inl ⟨rfl, hK⟩⟩
        | some bs =>
          have h1 := len o bs hf
          exact ⟨L, .inr (.inr ⟨bs, rfl, by omega, by rw [val o bs hf]; exact hK⟩)⟩
      · have okF : ∀ {r : List Int}, rowOk 1 r → okN 4 (encF (fillF L r)) := fun o => okN_up (okT_ok (okT_F fun bs e => Nat.le_trans (len o bs e) (by decide)))
        have ok4 : okN 6 (.list [.list [encF (fillF L r1), encF (fillF L r2), encF (fillF L r3)], .list [.bool true, .bool true, .bool true]]) :=
          okN_L ⟨okN_L ⟨okF o1, okF o2, okF o3, trivial⟩, okN_L ⟨trivial, trivial, trivial, trivial⟩, trivial⟩
        have hat : ∀ x, x ∈ rangeL 0 3 → ∃ r, rowOk 1 r ∧ atI [encF (fillF L r1), encF (fillF L r2), encF (fillF L r3)] x = some (encF (fillF L r)) ∧ atI [encI r1, encI r2, encI r3] x = some (encI r) := fun x hx => by
          rw [rangeL_mem] at hx
          have : x = 0 ∨ x = 1 ∨ x = 2 := by omega
          rcases this with rfl | rfl | rfl
          · exact ⟨r1, o1, rfl, rfl⟩
          · exact ⟨r2, o2, rfl, rfl⟩
          · exact ⟨r3, o3, rfl, rfl⟩
        have big : ∀ {r : List Int}, rowOk 1 r → ∀ bs, fillF L r = some bs → bs.length ≤ 1000 ∧ low60 bs := fun o bs e => ⟨Nat.le_trans (len o bs e) (by decide), low o bs e⟩
        have big2 : ∀ {r : List Int}, rowOk 1 r → ∀ bs, fillF L r = some bs → bs.length ≤ 400 := fun o bs e => Nat.le_trans (len o bs e) (by decide)
        (repeat ((conv => whnf); first | refine cnd.yes ?_ | refine cnd.no ?_ | refine cnd.decY (by first | rfl | omega) ?_ | refine cnd.decN (by omega) ?_ | refine cnd.notY (by omega) ?_ | refine cnd.notN (by first | rfl | omega) ?_ | refine cnd.decY (by simp only [List.length_cons, List.length_nil, List.length_map, List.length_append]; omega) ?_ | refine cnd.decN (by simp only [List.length_cons, List.length_nil, List.length_map, List.length_append]; omega) ?_ | refine Exists.intro _ (And.intro atI_zero ?_) | refine Exists.intro _ (And.intro atI_one ?_) | refine Exists.intro _ (And.intro (atI_last _ _) ?_) | refine Exists.intro _ (And.intro (setAt_last _ _ _) ?_) | refine Exists.intro _ (Exists.intro _ (Exists.intro _ (Exists.intro _ (And.intro rfl ?_)))) | refine Exists.intro _ (And.intro rfl ?_) | refine Exists.intro _ (Exists.intro _ (And.intro rfl ?_)) | refine Exists.intro _ (Exists.intro _ (Exists.intro _ (And.intro rfl ?_))) | refine And.intro (cdivW_small (by first | decide | omega) (by first | decide | omega)) ?_ | refine And.intro (.inl (.inl ⟨by omega, by omega⟩)) ?_ | refine And.intro (.inl (.inr ⟨by omega, by omega⟩)) ?_ | refine And.intro ⟨by decide, by decide, by decide⟩ ?_ | refine And.intro (by decide) ?_ | refine And.intro (by omega) ?_ | refine And.intro (by simp only [List.length_cons, List.length_nil]; decide) ?_ | refine And.intro (by simp only [List.length_cons, List.length_nil, List.length_map, List.length_append]; omega) ?_)); (conv => whnf)
        refine ⟨ok4, ?_⟩
        (repeat ((conv => whnf); first | refine cnd.yes ?_ | refine cnd.no ?_ | refine cnd.decY (by first | rfl | omega) ?_ | refine cnd.decN (by omega) ?_ | refine cnd.notY (by omega) ?_ | refine cnd.notN (by first | rfl | omega) ?_ | refine cnd.decY (by simp only [List.length_cons, List.length_nil, List.length_map, List.length_append]; omega) ?_ | refine cnd.decN (by simp only [List.length_cons, List.length_nil, List.length_map, List.length_append]; omega) ?_ | refine Exists.intro _ (And.intro atI_zero ?_) | refine Exists.intro _ (And.intro atI_one ?_) | refine Exists.intro _ (And.intro (atI_last _ _) ?_) | refine Exists.intro _ (And.intro (setAt_last _ _ _) ?_) | refine Exists.intro _ (Exists.intro _ (Exists.intro _ (Exists.intro _ (And.intro rfl ?_)))) | refine Exists.intro _ (And.intro rfl ?_) | refine Exists.intro _ (Exists.intro _ (And.intro rfl ?_)) | refine Exists.intro _ (Exists.intro _ (Exists.intro _ (And.intro rfl ?_))) | refine And.intro (cdivW_small (by first | decide | omega) (by first | decide | omega)) ?_ | refine And.intro (.inl (.inl ⟨by omega, by omega⟩)) ?_ | refine And.intro (.inl (.inr ⟨by omega, by omega⟩)) ?_ | refine And.intro ⟨by decide, by decide, by decide⟩ ?_ | refine And.intro (by decide) ?_ | refine And.intro (by omega) ?_ | refine And.intro (by simp only [List.length_cons, List.length_nil]; decide) ?_ | refine And.intro (by simp only [List.length_cons, List.length_nil, List.length_map, List.length_append]; omega) ?_)); (conv => whnf)
        refine forQ.by (rangeL 0 3) PyData.int (fun _ ρ => ∃ s3 s4 s5 s6 s7 s8 s9 s10 s11, ρ = [.pub (.list [encI r1, encI r2, encI r3]), .pub (.int L), .pub (.list [encF (fillF L r1), encF (fillF L r2), encF (fillF L r3)]), s3, s4, s5, s6, s7, s8, s9, s10, s11]) ⟨_, _, _, _, _, _, _, _, _, rfl⟩ ?_ ?_
        · rintro pre x ρ2 ⟨post, e⟩ ⟨s3, s4, s5, s6, s7, s8, s9, s10, s11, rfl⟩
          obtain ⟨rn, on, an, bn⟩ := hat x (by rw [e]; exact List.mem_append_right _ List.mem_cons_self)
          (repeat ((conv => whnf); first | refine cnd.yes ?_ | refine cnd.no ?_ | refine cnd.decY (by first | rfl | omega) ?_ | refine cnd.decN (by omega) ?_ | refine cnd.notY (by omega) ?_ | refine cnd.notN (by first | rfl | omega) ?_ | refine cnd.decY (by simp only [List.length_cons, List.length_nil, List.length_map, List.length_append]; omega) ?_ | refine cnd.decN (by simp only [List.length_cons, List.length_nil, List.length_map, List.length_append]; omega) ?_ | refine Exists.intro _ (And.intro atI_zero ?_) | refine Exists.intro _ (And.intro atI_one ?_) | refine Exists.intro _ (And.intro (atI_last _ _) ?_) | refine Exists.intro _ (And.intro (setAt_last _ _ _) ?_) | refine Exists.intro _ (Exists.intro _ (Exists.intro _ (Exists.intro _ (And.intro rfl ?_)))) | refine Exists.intro _ (And.intro rfl ?_) | refine Exists.intro _ (Exists.intro _ (And.intro rfl ?_)) | refine Exists.intro _ (Exists.intro _ (Exists.intro _ (And.intro rfl ?_))) | refine And.intro (cdivW_small (by first | decide | omega) (by first | decide | omega)) ?_ | refine And.intro (.inl (.inl ⟨by omega, by omega⟩)) ?_ | refine And.intro (.inl (.inr ⟨by omega, by omega⟩)) ?_ | refine And.intro ⟨by decide, by decide, by decide⟩ ?_ | refine And.intro (by decide) ?_ | refine And.intro (by omega) ?_ | refine And.intro (by simp only [List.length_cons, List.length_nil]; decide) ?_ | refine And.intro (by simp only [List.length_cons, List.length_nil, List.length_map, List.length_append]; omega) ?_)); (conv => whnf)
          refine forQ.by (rangeL 0 3) PyData.int (fun _ ρ => ∃ s4 s5 s6 s7 s8 s9 s10 s11, ρ = [.pub (.list [encI r1, encI r2, encI r3]), .pub (.int L), .pub (.list [encF (fillF L r1), encF (fillF L r2), encF (fillF L r3)]), .pub (.int x), s4, s5, s6, s7, s8, s9, s10, s11]) ⟨_, _, _, _, _, _, _, _, rfl⟩ ?_ ?_
          · rintro pre2 y ρ2 ⟨post2, e2⟩ ⟨s4, s5, s6, s7, s8, s9, s10, s11, rfl⟩
            obtain ⟨rf, of, af, bf⟩ := hat y (by rw [e2]; exact List.mem_append_right _ List.mem_cons_self)
            have lapp : ((rn.map PyData.int).length + (rf.map PyData.int).length) ≤ 16000000 := by
              rw [List.length_map, List.length_map]; have := on.1; have := of.1; omega
            have olen : (rn ++ rf).length ≤ 1000 := by rw [List.length_append]; have := on.1; have := of.1; omega
            have blen : ∀ bs, fillF L (rn ++ rf) = some bs → bs.length ≤ 16000000 := fun bs e => Nat.le_trans (fill_len e) (by omega)
            conv => whnf
            refine ⟨_, an, ?_⟩
            conv => whnf
            refine ⟨_, af, ?_⟩
            conv => whnf
            refine ⟨fillF L rn, fillF L rf, L, rfl, big on, big of, ?_⟩
            rw [due_rows hL (bnd on) (bnd of)]
            conv => whnf
            refine ⟨_, an, ?_⟩
            conv => whnf
            refine ⟨_, af, ?_⟩
            conv => whnf
            refine ⟨fillF L rn, fillF L rf, L, rfl, big2 on, big2 of, ?_⟩
            rw [beh_rows hL]
            conv => whnf
            refine ⟨_, bn, ?_⟩
            conv => whnf
            refine ⟨_, bf, ?_⟩
            conv => whnf
            refine ⟨lapp, ?_⟩
            conv => whnf
            refine ⟨rn ++ rf, L, by unfold encI; rw [List.map_append], olen, ?_⟩
            conv => whnf
            refine ⟨_, an, ?_⟩
            conv => whnf
            refine ⟨_, an, ?_⟩
            conv => whnf
            refine ⟨fillF L rn, fillF L rn, L, rfl, big2 on, big2 on, ?_⟩
            rw [beh_rows hL, fill_twice]
            (repeat ((conv => whnf); first | refine cnd.yes ?_ | refine cnd.no ?_ | refine cnd.decY (by first | rfl | omega) ?_ | refine cnd.decN (by omega) ?_ | refine cnd.notY (by omega) ?_ | refine cnd.notN (by first | rfl | omega) ?_ | refine cnd.decY (by simp only [List.length_cons, List.length_nil, List.length_map, List.length_append]; omega) ?_ | refine cnd.decN (by simp only [List.length_cons, List.length_nil, List.length_map, List.length_append]; omega) ?_ | refine Exists.intro _ (And.intro atI_zero ?_) | refine Exists.intro _ (And.intro atI_one ?_) | refine Exists.intro _ (And.intro (atI_last _ _) ?_) | refine Exists.intro _ (And.intro (setAt_last _ _ _) ?_) | refine Exists.intro _ (Exists.intro _ (Exists.intro _ (Exists.intro _ (And.intro rfl ?_)))) | refine Exists.intro _ (And.intro rfl ?_) | refine Exists.intro _ (Exists.intro _ (And.intro rfl ?_)) | refine Exists.intro _ (Exists.intro _ (Exists.intro _ (And.intro rfl ?_))) | refine And.intro (cdivW_small (by first | decide | omega) (by first | decide | omega)) ?_ | refine And.intro (.inl (.inl ⟨by omega, by omega⟩)) ?_ | refine And.intro (.inl (.inr ⟨by omega, by omega⟩)) ?_ | refine And.intro ⟨by decide, by decide, by decide⟩ ?_ | refine And.intro (by decide) ?_ | refine And.intro (by omega) ?_ | refine And.intro (by simp only [List.length_cons, List.length_nil]; decide) ?_ | refine And.intro (by simp only [List.length_cons, List.length_nil, List.length_map, List.length_append]; omega) ?_)); (conv => whnf)
            refine ⟨_, an, ?_⟩
            (repeat ((conv => whnf); first | refine cnd.yes ?_ | refine cnd.no ?_ | refine cnd.decY (by first | rfl | omega) ?_ | refine cnd.decN (by omega) ?_ | refine cnd.notY (by omega) ?_ | refine cnd.notN (by first | rfl | omega) ?_ | refine cnd.decY (by simp only [List.length_cons, List.length_nil, List.length_map, List.length_append]; omega) ?_ | refine cnd.decN (by simp only [List.length_cons, List.length_nil, List.length_map, List.length_append]; omega) ?_ | refine Exists.intro _ (And.intro atI_zero ?_) | refine Exists.intro _ (And.intro atI_one ?_) | refine Exists.intro _ (And.intro (atI_last _ _) ?_) | refine Exists.intro _ (And.intro (setAt_last _ _ _) ?_) | refine Exists.intro _ (Exists.intro _ (Exists.intro _ (Exists.intro _ (And.intro rfl ?_)))) | refine Exists.intro _ (And.intro rfl ?_) | refine Exists.intro _ (Exists.intro _ (And.intro rfl ?_)) | refine Exists.intro _ (Exists.intro _ (Exists.intro _ (And.intro rfl ?_))) | refine And.intro (cdivW_small (by first | decide | omega) (by first | decide | omega)) ?_ | refine And.intro (.inl (.inl ⟨by omega, by omega⟩)) ?_ | refine And.intro (.inl (.inr ⟨by omega, by omega⟩)) ?_ | refine And.intro ⟨by decide, by decide, by decide⟩ ?_ | refine And.intro (by decide) ?_ | refine And.intro (by omega) ?_ | refine And.intro (by simp only [List.length_cons, List.length_nil]; decide) ?_ | refine And.intro (by simp only [List.length_cons, List.length_nil, List.length_map, List.length_append]; omega) ?_)); (conv => whnf)
            have k1 : okN 5 (encF (fillF L (rn ++ rf))) := okN_up (okN_up (okT_ok (okT_F blen)))
            have k2 : okN 5 (encF (fillF L rn)) := okN_up (okF on)
            refine ⟨okN_L ⟨k1, k1, k2, trivial⟩, ?_⟩
            (repeat ((conv => whnf); first | refine cnd.yes ?_ | refine cnd.no ?_ | refine cnd.decY (by first | rfl | omega) ?_ | refine cnd.decN (by omega) ?_ | refine cnd.notY (by omega) ?_ | refine cnd.notN (by first | rfl | omega) ?_ | refine cnd.decY (by simp only [List.length_cons, List.length_nil, List.length_map, List.length_append]; omega) ?_ | refine cnd.decN (by simp only [List.length_cons, List.length_nil, List.length_map, List.length_append]; omega) ?_ | refine Exists.intro _ (And.intro atI_zero ?_) | refine Exists.intro _ (And.intro atI_one ?_) | refine Exists.intro _ (And.intro (atI_last _ _) ?_) | refine Exists.intro _ (And.intro (setAt_last _ _ _) ?_) | refine Exists.intro _ (Exists.intro _ (Exists.intro _ (Exists.intro _ (And.intro rfl ?_)))) | refine Exists.intro _ (And.intro rfl ?_) | refine Exists.intro _ (Exists.intro _ (And.intro rfl ?_)) | refine Exists.intro _ (Exists.intro _ (Exists.intro _ (And.intro rfl ?_))) | refine And.intro (cdivW_small (by first | decide | omega) (by first | decide | omega)) ?_ | refine And.intro (.inl (.inl ⟨by omega, by omega⟩)) ?_ | refine And.intro (.inl (.inr ⟨by omega, by omega⟩)) ?_ | refine And.intro ⟨by decide, by decide, by decide⟩ ?_ | refine And.intro (by decide) ?_ | refine And.intro (by omega) ?_ | refine And.intro (by simp only [List.length_cons, List.length_nil]; decide) ?_ | refine And.intro (by simp only [List.length_cons, List.length_nil, List.length_map, List.length_append]; omega) ?_)); (conv => whnf)
            exact ⟨_, _, _, _, _, _, _, _, rfl⟩
          · rintro ρ2 ⟨s4, s5, s6, s7, s8, s9, s10, s11, rfl⟩
            (repeat ((conv => whnf); first | refine cnd.yes ?_ | refine cnd.no ?_ | refine cnd.decY (by first | rfl | omega) ?_ | refine cnd.decN (by omega) ?_ | refine cnd.notY (by omega) ?_ | refine cnd.notN (by first | rfl | omega) ?_ | refine cnd.decY (by simp only [List.length_cons, List.length_nil, List.length_map, List.length_append]; omega) ?_ | refine cnd.decN (by simp only [List.length_cons, List.length_nil, List.length_map, List.length_append]; omega) ?_ | refine Exists.intro _ (And.intro atI_zero ?_) | refine Exists.intro _ (And.intro atI_one ?_) | refine Exists.intro _ (And.intro (atI_last _ _) ?_) | refine Exists.intro _ (And.intro (setAt_last _ _ _) ?_) | refine Exists.intro _ (Exists.intro _ (Exists.intro _ (Exists.intro _ (And.intro rfl ?_)))) | refine Exists.intro _ (And.intro rfl ?_) | refine Exists.intro _ (Exists.intro _ (And.intro rfl ?_)) | refine Exists.intro _ (Exists.intro _ (Exists.intro _ (And.intro rfl ?_))) | refine And.intro (cdivW_small (by first | decide | omega) (by first | decide | omega)) ?_ | refine And.intro (.inl (.inl ⟨by omega, by omega⟩)) ?_ | refine And.intro (.inl (.inr ⟨by omega, by omega⟩)) ?_ | refine And.intro ⟨by decide, by decide, by decide⟩ ?_ | refine And.intro (by decide) ?_ | refine And.intro (by omega) ?_ | refine And.intro (by simp only [List.length_cons, List.length_nil]; decide) ?_ | refine And.intro (by simp only [List.length_cons, List.length_nil, List.length_map, List.length_append]; omega) ?_)); (conv => whnf)
            exact ⟨_, _, _, _, _, _, _, _, _, rfl⟩
        · rintro ρ2 ⟨s3, s4, s5, s6, s7, s8, s9, s10, s11, rfl⟩
          conv => whnf
          refine ⟨fillF L r1, fillF L r2, L, rfl, big2 o1, big2 o2, ?_⟩
          rw [beh_rows hL]
          conv => whnf
          have l12 : ∀ bs, fillF L (r1 ++ r2) = some bs → bs.length ≤ 400 := fun bs e => Nat.le_trans (fill_len e) (by rw [List.length_append]; have := o1.1; have := o2.1; omega)
          have l23 : ∀ bs, fillF L (r2 ++ r3) = some bs → bs.length ≤ 400 := fun bs e => Nat.le_trans (fill_len e) (by rw [List.length_append]; have := o2.1; have := o3.1; omega)
          have l123 : ∀ bs, fillF L (r1 ++ (r2 ++ r3)) = some bs → bs.length ≤ 16000000 := fun bs e => Nat.le_trans (fill_len e) (by rw [List.length_append, List.length_append]; have := o1.1; have := o2.1; have := o3.1; omega)
          have nil0 : ∀ bs, some ([] : List Bl) = some bs → bs.length ≤ 400 := fun bs e => by cases e; exact Nat.zero_le _
          have non0 : ∀ bs, (none : Option (List Bl)) = some bs → bs.length ≤ 400 := fun bs e => by cases e
          refine ⟨fillF L (r1 ++ r2), fillF L r3, L, rfl, l12, big2 o3, ?_⟩
          rw [beh_rows hL, List.append_assoc]
          conv => whnf
          refine ⟨by decide, ?_⟩
          conv => whnf
          refine ⟨some [], fillF L r1, L, rfl, nil0, big2 o1, ?_⟩
          rw [← fill_nil L, beh_rows hL, List.nil_append]
          conv => whnf
          refine ⟨by decide, ?_⟩
          conv => whnf
          refine ⟨fillF L r1, some [], L, rfl, big2 o1, nil0, ?_⟩
          rw [← fill_nil L, beh_rows hL, List.append_nil]
          conv => whnf
          refine ⟨none, fillF L r1, L, rfl, non0, big2 o1, ?_⟩
          conv => whnf
          refine ⟨fillF L r1, none, L, rfl, big2 o1, non0, ?_⟩
          rw [show beh L (fillF L r1) none = none from by cases fillF L r1 with
            | none => rfl
            | some bs => cases bs <;> rfl]
          conv => whnf
          refine ⟨by simp, ?_⟩
          conv => whnf
          refine ⟨fillF L r2, fillF L r3, L, rfl, big2 o2, big2 o3, ?_⟩
          rw [beh_rows hL]
          conv => whnf
          refine ⟨fillF L r1, fillF L (r2 ++ r3), L, rfl, big2 o1, l23, ?_⟩
          rw [beh_rows hL]
          conv => whnf
          refine ⟨by simp, ?_⟩
          conv => whnf
          refine ⟨_, rfl, ?_, ?_⟩
          · have k1 : okN 5 (encF (fillF L (r1 ++ (r2 ++ r3)))) := okN_up (okN_up (okT_ok (okT_F l123)))
            have k2 : okN 5 (encF (fillF L r1)) := okN_up (okF o1)
            exact okN_L ⟨k1, k2, k2, trivial, trivial, trivial⟩
          · conv => whnf
            exact q
def fineB (L : Int) (bs : List Bl) : Bool := match bs with
  | [] => true
  | b :: t => decide (2 * L ≤ b.1) && (((b :: t).zip t).filter fun p => decide (p.2.1 - p.1.2 ≤ L)).isEmpty
theorem fine_valid {L : Int} {bs : List Bl} (h : ∀ b, b ∈ bs → 1 ≤ b.1 ∧ b.1 ≤ b.2) : validB L bs = fineB L bs := by
  have e : bs.all okB = true := by
    rw [List.all_eq_true]
    intro b hb
    have := h b hb
    unfold okB
    rw [decide_eq_true (show 1 ≤ b.1 by omega), decide_eq_true (show 1 ≤ b.2 by omega), decide_eq_true (show b.1 ≤ b.2 by omega)]
    rfl
  unfold validB
  rw [e, Bool.true_and]
  cases bs with
  | nil => rfl
  | cons b t =>
    show (decide (2 * L ≤ b.1) && ((b :: t).zip t).all fun p => decide (p.1.2 + L < p.2.1)) = (decide (2 * L ≤ b.1) && (((b :: t).zip t).filter fun p => decide (p.2.1 - p.1.2 ≤ L)).isEmpty)
    congr 1
    rw [Bool.eq_iff_iff, List.all_eq_true, List.isEmpty_iff, List.filter_eq_nil_iff]
    constructor
    · intro h p hp
      have := of_decide_eq_true (h p hp)
      rw [decide_eq_false (by omega)]
      exact fun z => nomatch z
    · intro h p hp
      refine decide_eq_true ?_
      have := h p hp
      rw [decide_eq_true_iff] at this
      omega
theorem mem_zip_tail {α : Type} {x y : α} : ∀ (pre post : List α), (x, y) ∈ (pre ++ x :: y :: post).zip (pre ++ x :: y :: post).tail
  | [], post => List.mem_cons_self
  | [a], post => List.mem_cons_of_mem _ List.mem_cons_self
  | a :: b :: pre, post => List.mem_cons_of_mem _ (mem_zip_tail (b :: pre) post)
theorem rev_bad {L : Int} (hL : 1 ≤ L) {x y : Bl} {t : List Bl} (hx : x.2 + L ≤ y.1) (h1 : x.1 ≤ x.2) (h2 : y.1 ≤ y.2) : validB L (x :: y :: t).reverse = false := by
  have e : (x :: y :: t).reverse = t.reverse ++ y :: x :: [] := by simp
  have hm := mem_zip_tail (x := y) (y := x) t.reverse []
  unfold validB
  have : (((x :: y :: t).reverse.zip (x :: y :: t).reverse.tail).all fun p => decide (p.1.2 + L < p.2.1)) = false := by
    rw [e, List.all_eq_false]
    exact ⟨_, hm, by rw [decide_eq_false (by show ¬ (y.2 + L < x.1); omega)]; exact fun z => nomatch z⟩
  rw [this, Bool.and_false]
def Φ__law_shape_right : PhiO := fun R ds Q => ∃ (b : Addr) (r : Nat) (L : Int), R = Box b (r + 8) ∧ ds = [.int L] ∧ 1 ≤ L ∧ L ≤ 4 ∧ ∀ (r' : Nat), r ≤ r' → Q (.bool true) (Box b r')
theorem m__law_shape_right : ∀ {s : Res} {ds : List PD} {Q Q' : PD → Res → Prop}, (∀ d s', Q d s' → Q' d s') → Φ__law_shape_right s ds Q → Φ__law_shape_right s ds Q' := fun h ⟨b, r, L, e1, e2, h0, h1, q⟩ => ⟨b, r, L, e1, e2, h0, h1, fun r' a => h _ _ (q r' a)⟩
theorem l__law_shape_right : ∀ s ds Q, Φ__law_shape_right s ds Q → ds.length + 1 = 2 := fun s ds Q ⟨b, r, L, _, e, _⟩ => by rw [e]; rfl
theorem at__law_shape_right (T : Tp K mg) : FnAt P w K mg base "_law_shape_right" 8 (spO K Φ__law_shape_right) := by
  obtain ⟨f, fd, F, hm, hb⟩ := T.d__law_shape_right
  refine ⟨f, fd, ["box", "low"], fn_o F sc__law_shape_right l__law_shape_right fun cdv A outer s H E hr => ⟨_, (dss_cons (ds_par true false 2 3 rfl sc__law_shape_right.nd (de_lst da_nil) (de_callO (i := 0) (at__law_of T) hr m__law_of (da_cons (de_lst (da_cons (de_bin de_int (de_var 1)) (da_cons (de_bin (de_bin de_int (de_var 1)) de_int) (da_cons (de_bin (de_bin de_int (de_var 1)) de_int) da_nil)))) da_nil)))
    (dss_cons (ds_for PassesOwn.never rfl (di_range1 T.range (da_cons (de_callO (i := 0) (at__law_take T) hr m__law_take (da_cons de_int da_nil)) da_nil)) (dg_n 4 sc__law_shape_right.nd) (dss_cons (ds_set false 5 sc__law_shape_right.nd (de_bin (de_var 3) (de_callO (i := 0) (at__law_take T) hr m__law_take (da_cons de_int da_nil))))
    (dss_cons (ds_app 2 (de_tup (da_cons (de_var 3) (da_cons (de_var 5) da_nil))))
    (dss_one (ds_set false 3 sc__law_shape_right.nd (de_bin (de_var 5) (de_callO (i := 0) (at__law_of T) hr m__law_of (da_cons (de_lst (da_cons (de_var 1) (da_cons (de_bin (de_var 1) de_int) (da_cons (de_bin (de_var 1) de_int) da_nil)))) da_nil))))))))
    (dss_cons (ds_set false 6 sc__law_shape_right.nd (de_callTy tuple_ok tupleW_m T.tuple b_tuple (de_var 2)))
    (dss_consC (ds_set false 7 sc__law_shape_right.nd (de_or (de_cmp (hu65 hr) (de_var 6) (de_tup da_nil)) (de_one (de_and (de_cmp (hu65 hr) (de_ix (de_ix (de_var 6) de_int) de_int) (de_bin de_int (de_var 1))) (de_one (de_cmp (hu65 hr) (de_lc rfl sc__law_shape_right.nd (blkOk_by (N := ["box", "low", "numbers", "here", "turn", "end", "thing", "fine", "got", "one", "two", "start"]) (sc := defScope s__law_shape_right) (own := [("one", 9), ("two", 10)]) (by decide +kernel)) (lc_ok (di_zip T.zip (da_cons (de_var 6) (da_cons (de_sl (de_var 6) (do_some de_int) do_none) da_nil))) (fun _ _ _ _ _ => (dg_t rfl (dgs_cons (dg_n 9 sc__law_shape_right.nd) (dgs_cons (dg_n 10 sc__law_shape_right.nd) dgs_nil)) (hl := gs2))) (fun _ _ _ _ _ => (dp_one (dt_cmp (hu65 hr) (de_bin (de_ix (de_var 10) de_int) (de_ix (de_var 9) de_int)) (de_var 1)))) (fun _ _ _ _ _ => de_int))) (de_lst da_nil)))))))
    (dss_cons (ds_set false 8 sc__law_shape_right.nd (de_lst (da_cons (de_call (at_is_filling T) hr m_is_filling (da_cons (de_var 1) (da_cons (de_var 6) da_nil))) (da_cons (de_call (at_is_filling T) hr m_is_filling (da_cons (de_var 1) (da_cons (de_callTy list_ok listW_m T.list b_list (de_var 6)) da_nil))) (da_cons (de_if (dt_cmp (hu65 hr) (de_callB len_ok lenW_m T.len b_len (de_var 6)) de_int) (de_call (at_is_filling T) hr m_is_filling (da_cons (de_var 1) (da_cons (de_revT (de_var 6)) da_nil))) de_bl) (da_cons (de_if (dt_val (de_var 7)) (de_call (at_many_numbers T) hr m_many_numbers (da_cons (de_var 6) da_nil)) de_int) da_nil))))))
    (dss_one (ds_ret (de_call (at__law_same T 6) hr (m__law_same 6) (da_cons (de_var 8) (da_cons (de_lst (da_cons (de_var 7) (da_cons de_bl (da_cons de_bl (da_cons (de_if (dt_val (de_var 7)) (de_callB (sum_ok rfl) sumW_m T.sum b_sum (de_lc rfl sc__law_shape_right.nd (blkOk_by (N := ["box", "low", "numbers", "here", "turn", "end", "thing", "fine", "got", "one", "two", "start"]) (sc := defScope s__law_shape_right) (own := [("start", 11), ("end", 5)]) (by decide +kernel)) (lc_ok (di_exp (de_var 6)) (fun _ _ _ _ _ => (dg_t rfl (dgs_cons (dg_n 11 sc__law_shape_right.nd) (dgs_cons (dg_n 5 sc__law_shape_right.nd) dgs_nil)) (hl := gs2))) (fun _ _ _ _ _ => dp_nil) (fun _ _ _ _ _ => (de_bin (de_bin (de_var 5) (de_var 11)) de_int))))) de_int) da_nil))))) da_nil)))))))))), fun R ds Q h => ?_⟩, hm, F.kp, hb⟩
  obtain ⟨b, r, L, rfl, rfl, hL, hL4, q⟩ := h
  (repeat ((conv => whnf); first | refine cnd.yes ?_ | refine cnd.no ?_ | refine cnd.decY (by first | rfl | omega) ?_ | refine cnd.decN (by omega) ?_ | refine cnd.notY (by omega) ?_ | refine cnd.notN (by first | rfl | omega) ?_ | refine cnd.decY (by simp only [List.length_cons, List.length_nil, List.length_map, List.length_append]; omega) ?_ | refine cnd.decN (by simp only [List.length_cons, List.length_nil, List.length_map, List.length_append]; omega) ?_ | refine Exists.intro _ (And.intro atI_zero ?_) | refine Exists.intro _ (And.intro atI_one ?_) | refine Exists.intro _ (And.intro (atI_last _ _) ?_) | refine Exists.intro _ (And.intro (setAt_last _ _ _) ?_) | refine Exists.intro _ (Exists.intro _ (Exists.intro _ (Exists.intro _ (And.intro rfl ?_)))) | refine Exists.intro _ (And.intro rfl ?_) | refine Exists.intro _ (Exists.intro _ (And.intro rfl ?_)) | refine Exists.intro _ (Exists.intro _ (Exists.intro _ (And.intro rfl ?_))) | refine And.intro (cdivW_small (by first | decide | omega) (by first | decide | omega)) ?_ | refine And.intro (.inl (.inl ⟨by omega, by omega⟩)) ?_ | refine And.intro (.inl (.inr ⟨by omega, by omega⟩)) ?_ | refine And.intro ⟨by decide, by decide, by decide⟩ ?_ | refine And.intro (by decide) ?_ | refine And.intro (by omega) ?_ | refine And.intro (by simp only [List.length_cons, List.length_nil]; decide) ?_ | refine And.intro (by simp only [List.length_cons, List.length_nil, List.length_map, List.length_append]; omega) ?_)); (conv => whnf)
  refine ⟨b, r + 7, _, [2 * L, 2 * L - 1, 2 * L + 3].map PyData.int, rfl, rfl, rfl, by simp, by simp, fun d hd => ?_⟩
  obtain ⟨d, hm, rfl⟩ := List.mem_map.mp hd
  have hd0 : 1 ≤ d := by
    have : d = 2 * L ∨ d = 2 * L - 1 ∨ d = 2 * L + 3 := by simpa using hm
    omega
  (repeat ((conv => whnf); first | refine cnd.yes ?_ | refine cnd.no ?_ | refine cnd.decY (by first | rfl | omega) ?_ | refine cnd.decN (by omega) ?_ | refine cnd.notY (by omega) ?_ | refine cnd.notN (by first | rfl | omega) ?_ | refine cnd.decY (by simp only [List.length_cons, List.length_nil, List.length_map, List.length_append]; omega) ?_ | refine cnd.decN (by simp only [List.length_cons, List.length_nil, List.length_map, List.length_append]; omega) ?_ | refine Exists.intro _ (And.intro atI_zero ?_) | refine Exists.intro _ (And.intro atI_one ?_) | refine Exists.intro _ (And.intro (atI_last _ _) ?_) | refine Exists.intro _ (And.intro (setAt_last _ _ _) ?_) | refine Exists.intro _ (Exists.intro _ (Exists.intro _ (Exists.intro _ (And.intro rfl ?_)))) | refine Exists.intro _ (And.intro rfl ?_) | refine Exists.intro _ (Exists.intro _ (And.intro rfl ?_)) | refine Exists.intro _ (Exists.intro _ (Exists.intro _ (And.intro rfl ?_))) | refine And.intro (cdivW_small (by first | decide | omega) (by first | decide | omega)) ?_ | refine And.intro (.inl (.inl ⟨by omega, by omega⟩)) ?_ | refine And.intro (.inl (.inr ⟨by omega, by omega⟩)) ?_ | refine And.intro ⟨by decide, by decide, by decide⟩ ?_ | refine And.intro (by decide) ?_ | refine And.intro (by omega) ?_ | refine And.intro (by simp only [List.length_cons, List.length_nil]; decide) ?_ | refine And.intro (by simp only [List.length_cons, List.length_nil, List.length_map, List.length_append]; omega) ?_)); (conv => whnf)
  refine ⟨b, r + 6, 4, rfl, rfl, by decide, by decide, fun n n0 n1 => ?_⟩
  (repeat ((conv => whnf); first | refine cnd.yes ?_ | refine cnd.no ?_ | refine cnd.decY (by first | rfl | omega) ?_ | refine cnd.decN (by omega) ?_ | refine cnd.notY (by omega) ?_ | refine cnd.notN (by first | rfl | omega) ?_ | refine cnd.decY (by simp only [List.length_cons, List.length_nil, List.length_map, List.length_append]; omega) ?_ | refine cnd.decN (by simp only [List.length_cons, List.length_nil, List.length_map, List.length_append]; omega) ?_ | refine Exists.intro _ (And.intro atI_zero ?_) | refine Exists.intro _ (And.intro atI_one ?_) | refine Exists.intro _ (And.intro (atI_last _ _) ?_) | refine Exists.intro _ (And.intro (setAt_last _ _ _) ?_) | refine Exists.intro _ (Exists.intro _ (Exists.intro _ (Exists.intro _ (And.intro rfl ?_)))) | refine Exists.intro _ (And.intro rfl ?_) | refine Exists.intro _ (Exists.intro _ (And.intro rfl ?_)) | refine Exists.intro _ (Exists.intro _ (Exists.intro _ (And.intro rfl ?_))) | refine And.intro (cdivW_small (by first | decide | omega) (by first | decide | omega)) ?_ | refine And.intro (.inl (.inl ⟨by omega, by omega⟩)) ?_ | refine And.intro (.inl (.inr ⟨by omega, by omega⟩)) ?_ | refine And.intro ⟨by decide, by decide, by decide⟩ ?_ | refine And.intro (by decide) ?_ | refine And.intro (by omega) ?_ | refine And.intro (by simp only [List.length_cons, List.length_nil]; decide) ?_ | refine And.intro (by simp only [List.length_cons, List.length_nil, List.length_map, List.length_append]; omega) ?_)); (conv => whnf)
  refine forQ.by (rangeL 0 n) PyData.int (fun pre ρ => ∃ (r' : Nat) (here : Int) (bs : List Bl) (s4 s5 s6 s7 s8 s9 s10 s11 : Slot), ρ = [.own (Box b r'), .pub (.int L), .lst (bs.map encB), .pub (.int here), s4, s5, s6, s7, s8, s9, s10, s11] ∧ r + 6 ≤ r' + 2 * pre.length ∧ bs.length ≤ pre.length ∧ (∀ x, x ∈ bs → 1 ≤ x.1 ∧ x.1 ≤ x.2 ∧ x.2 + L ≤ here) ∧ bs.Pairwise (fun a b => a.2 + L ≤ b.1) ∧ 1 ≤ here)
    ⟨r + 6, d, [], _, _, _, _, _, _, _, _, rfl, Nat.le_refl _, Nat.le_refl _, (fun x hx => by cases hx), .nil, hd0⟩ ?_ ?_
  · rintro pre x ρ2 ⟨post, e⟩ ⟨r', here, bs, s4, s5, s6, s7, s8, s9, s10, s11, rfl, hr, hl, hbs, hpw, hh⟩
    have hn : pre.length < 3 := by
      have := congrArg List.length e
      rw [rangeL_length, List.length_append, List.length_cons] at this
      omega
    (repeat ((conv => whnf); first | refine cnd.yes ?_ | refine cnd.no ?_ | refine cnd.decY (by first | rfl | omega) ?_ | refine cnd.decN (by omega) ?_ | refine cnd.notY (by omega) ?_ | refine cnd.notN (by first | rfl | omega) ?_ | refine cnd.decY (by simp only [List.length_cons, List.length_nil, List.length_map, List.length_append]; omega) ?_ | refine cnd.decN (by simp only [List.length_cons, List.length_nil, List.length_map, List.length_append]; omega) ?_ | refine Exists.intro _ (And.intro atI_zero ?_) | refine Exists.intro _ (And.intro atI_one ?_) | refine Exists.intro _ (And.intro (atI_last _ _) ?_) | refine Exists.intro _ (And.intro (setAt_last _ _ _) ?_) | refine Exists.intro _ (Exists.intro _ (Exists.intro _ (Exists.intro _ (And.intro rfl ?_)))) | refine Exists.intro _ (And.intro rfl ?_) | refine Exists.intro _ (Exists.intro _ (And.intro rfl ?_)) | refine Exists.intro _ (Exists.intro _ (Exists.intro _ (And.intro rfl ?_))) | refine And.intro (cdivW_small (by first | decide | omega) (by first | decide | omega)) ?_ | refine And.intro (.inl (.inl ⟨by omega, by omega⟩)) ?_ | refine And.intro (.inl (.inr ⟨by omega, by omega⟩)) ?_ | refine And.intro ⟨by decide, by decide, by decide⟩ ?_ | refine And.intro (by decide) ?_ | refine And.intro (by omega) ?_ | refine And.intro (by simp only [List.length_cons, List.length_nil]; decide) ?_ | refine And.intro (by simp only [List.length_cons, List.length_nil, List.length_map, List.length_append]; omega) ?_)); (conv => whnf)
    obtain ⟨r2, rfl⟩ : ∃ r2, r' = r2 + 1 + 1 := ⟨r' - 2, by omega⟩
    refine ⟨b, r2 + 1, 3, rfl, rfl, by decide, by decide, fun k k0 k1 => ?_⟩
    (repeat ((conv => whnf); first | refine cnd.yes ?_ | refine cnd.no ?_ | refine cnd.decY (by first | rfl | omega) ?_ | refine cnd.decN (by omega) ?_ | refine cnd.notY (by omega) ?_ | refine cnd.notN (by first | rfl | omega) ?_ | refine cnd.decY (by simp only [List.length_cons, List.length_nil, List.length_map, List.length_append]; omega) ?_ | refine cnd.decN (by simp only [List.length_cons, List.length_nil, List.length_map, List.length_append]; omega) ?_ | refine Exists.intro _ (And.intro atI_zero ?_) | refine Exists.intro _ (And.intro atI_one ?_) | refine Exists.intro _ (And.intro (atI_last _ _) ?_) | refine Exists.intro _ (And.intro (setAt_last _ _ _) ?_) | refine Exists.intro _ (Exists.intro _ (Exists.intro _ (Exists.intro _ (And.intro rfl ?_)))) | refine Exists.intro _ (And.intro rfl ?_) | refine Exists.intro _ (Exists.intro _ (And.intro rfl ?_)) | refine Exists.intro _ (Exists.intro _ (Exists.intro _ (And.intro rfl ?_))) | refine And.intro (cdivW_small (by first | decide | omega) (by first | decide | omega)) ?_ | refine And.intro (.inl (.inl ⟨by omega, by omega⟩)) ?_ | refine And.intro (.inl (.inr ⟨by omega, by omega⟩)) ?_ | refine And.intro ⟨by decide, by decide, by decide⟩ ?_ | refine And.intro (by decide) ?_ | refine And.intro (by omega) ?_ | refine And.intro (by simp only [List.length_cons, List.length_nil]; decide) ?_ | refine And.intro (by simp only [List.length_cons, List.length_nil, List.length_map, List.length_append]; omega) ?_)); (conv => whnf)
    refine ⟨b, r2, _, [L, L + 1, L + 2].map PyData.int, rfl, rfl, rfl, by simp, by simp, fun d hd => ?_⟩
    obtain ⟨d, hm, rfl⟩ := List.mem_map.mp hd
    have hd0 : L ≤ d := by
      have : d = L ∨ d = L + 1 ∨ d = L + 2 := by simpa using hm
      omega
    (repeat ((conv => whnf); first | refine cnd.yes ?_ | refine cnd.no ?_ | refine cnd.decY (by first | rfl | omega) ?_ | refine cnd.decN (by omega) ?_ | refine cnd.notY (by omega) ?_ | refine cnd.notN (by first | rfl | omega) ?_ | refine cnd.decY (by simp only [List.length_cons, List.length_nil, List.length_map, List.length_append]; omega) ?_ | refine cnd.decN (by simp only [List.length_cons, List.length_nil, List.length_map, List.length_append]; omega) ?_ | refine Exists.intro _ (And.intro atI_zero ?_) | refine Exists.intro _ (And.intro atI_one ?_) | refine Exists.intro _ (And.intro (atI_last _ _) ?_) | refine Exists.intro _ (And.intro (setAt_last _ _ _) ?_) | refine Exists.intro _ (Exists.intro _ (Exists.intro _ (Exists.intro _ (And.intro rfl ?_)))) | refine Exists.intro _ (And.intro rfl ?_) | refine Exists.intro _ (Exists.intro _ (And.intro rfl ?_)) | refine Exists.intro _ (Exists.intro _ (Exists.intro _ (And.intro rfl ?_))) | refine And.intro (cdivW_small (by first | decide | omega) (by first | decide | omega)) ?_ | refine And.intro (.inl (.inl ⟨by omega, by omega⟩)) ?_ | refine And.intro (.inl (.inr ⟨by omega, by omega⟩)) ?_ | refine And.intro ⟨by decide, by decide, by decide⟩ ?_ | refine And.intro (by decide) ?_ | refine And.intro (by omega) ?_ | refine And.intro (by simp only [List.length_cons, List.length_nil]; decide) ?_ | refine And.intro (by simp only [List.length_cons, List.length_nil, List.length_map, List.length_append]; omega) ?_)); (conv => whnf)
    refine ⟨r2, here + k + d, bs ++ [(here, here + k)], _, _, _, _, _, _, _, _, by rw [getLast_map]; rfl, ?_, ?_, fun y hy => ?_, ?_, by omega⟩
    · rw [List.length_append, List.length_singleton]; omega
    · rw [List.length_append, List.length_append, List.length_singleton, List.length_singleton]; omega
    · rw [List.mem_append, List.mem_singleton] at hy
      rcases hy with hy | rfl
      · have := hbs y hy; omega
      · show 1 ≤ here ∧ here ≤ here + k ∧ here + k + L ≤ here + k + d
        omega
    · rw [List.pairwise_append]
      refine ⟨hpw, List.pairwise_singleton _ _, fun y hy z hz => ?_⟩
      rw [List.mem_singleton] at hz
      subst hz
      exact (hbs y hy).2.2
  · rintro ρ2 ⟨r', here, bs, s4, s5, s6, s7, s8, s9, s10, s11, rfl, hr, hl, hbs, hpw, hh⟩
    rw [rangeL_length] at hr hl
    have hfv : validB L bs = fineB L bs := fine_valid fun x hx => ⟨(hbs x hx).1, (hbs x hx).2.1⟩
    have okB2 : okN 3 (.tuple (bs.map encB)) := okT_ok (okT_F (f := some bs) fun cs e => by cases e; omega)
    conv => whnf
    refine ⟨fun ρ => ∃ s4 s5 s8 s9 s10 s11, ρ = [.own (Box b r'), .pub (.int L), .lst (bs.map encB), .pub (.int here), s4, s5, .pub (.tuple (bs.map encB)), .pub (.bool (fineB L bs)), s8, s9, s10, s11], ?_, ?_⟩
    · conv => whnf
      refine ⟨by decide, ?_⟩
      conv => whnf
      refine ⟨⟨shaped_of okB2 (by decide), shaped_nilT⟩, ?_⟩
      rw [eqv_tupNil]
      cases bs with
      | nil =>
        (repeat ((conv => whnf); first | refine cnd.yes ?_ | refine cnd.no ?_ | refine cnd.decY (by first | rfl | omega) ?_ | refine cnd.decN (by omega) ?_ | refine cnd.notY (by omega) ?_ | refine cnd.notN (by first | rfl | omega) ?_ | refine cnd.decY (by simp only [List.length_cons, List.length_nil, List.length_map, List.length_append]; omega) ?_ | refine cnd.decN (by simp only [List.length_cons, List.length_nil, List.length_map, List.length_append]; omega) ?_ | refine Exists.intro _ (And.intro atI_zero ?_) | refine Exists.intro _ (And.intro atI_one ?_) | refine Exists.intro _ (And.intro (atI_last _ _) ?_) | refine Exists.intro _ (And.intro (setAt_last _ _ _) ?_) | refine Exists.intro _ (Exists.intro _ (Exists.intro _ (Exists.intro _ (And.intro rfl ?_)))) | refine Exists.intro _ (And.intro rfl ?_) | refine Exists.intro _ (Exists.intro _ (And.intro rfl ?_)) | refine Exists.intro _ (Exists.intro _ (Exists.intro _ (And.intro rfl ?_))) | refine And.intro (cdivW_small (by first | decide | omega) (by first | decide | omega)) ?_ | refine And.intro (.inl (.inl ⟨by omega, by omega⟩)) ?_ | refine And.intro (.inl (.inr ⟨by omega, by omega⟩)) ?_ | refine And.intro ⟨by decide, by decide, by decide⟩ ?_ | refine And.intro (by decide) ?_ | refine And.intro (by omega) ?_ | refine And.intro (by simp only [List.length_cons, List.length_nil]; decide) ?_ | refine And.intro (by simp only [List.length_cons, List.length_nil, List.length_map, List.length_append]; omega) ?_)); (conv => whnf)
        exact ⟨_, _, _, _, _, _, rfl⟩
      | cons x t =>
        (repeat ((conv => whnf); first | refine cnd.yes ?_ | refine cnd.no ?_ | refine cnd.decY (by first | rfl | omega) ?_ | refine cnd.decN (by omega) ?_ | refine cnd.notY (by omega) ?_ | refine cnd.notN (by first | rfl | omega) ?_ | refine cnd.decY (by simp only [List.length_cons, List.length_nil, List.length_map, List.length_append]; omega) ?_ | refine cnd.decN (by simp only [List.length_cons, List.length_nil, List.length_map, List.length_append]; omega) ?_ | refine Exists.intro _ (And.intro atI_zero ?_) | refine Exists.intro _ (And.intro atI_one ?_) | refine Exists.intro _ (And.intro (atI_last _ _) ?_) | refine Exists.intro _ (And.intro (setAt_last _ _ _) ?_) | refine Exists.intro _ (Exists.intro _ (Exists.intro _ (Exists.intro _ (And.intro rfl ?_)))) | refine Exists.intro _ (And.intro rfl ?_) | refine Exists.intro _ (Exists.intro _ (And.intro rfl ?_)) | refine Exists.intro _ (Exists.intro _ (Exists.intro _ (And.intro rfl ?_))) | refine And.intro (cdivW_small (by first | decide | omega) (by first | decide | omega)) ?_ | refine And.intro (.inl (.inl ⟨by omega, by omega⟩)) ?_ | refine And.intro (.inl (.inr ⟨by omega, by omega⟩)) ?_ | refine And.intro ⟨by decide, by decide, by decide⟩ ?_ | refine And.intro (by decide) ?_ | refine And.intro (by omega) ?_ | refine And.intro (by simp only [List.length_cons, List.length_nil]; decide) ?_ | refine And.intro (by simp only [List.length_cons, List.length_nil, List.length_map, List.length_append]; omega) ?_)); (conv => whnf)
        refine .dec (fun h => ?_) fun h => ?_
        · (repeat ((conv => whnf); first | refine cnd.yes ?_ | refine cnd.no ?_ | refine cnd.decY (by first | rfl | omega) ?_ | refine cnd.decN (by omega) ?_ | refine cnd.notY (by omega) ?_ | refine cnd.notN (by first | rfl | omega) ?_ | refine cnd.decY (by simp only [List.length_cons, List.length_nil, List.length_map, List.length_append]; omega) ?_ | refine cnd.decN (by simp only [List.length_cons, List.length_nil, List.length_map, List.length_append]; omega) ?_ | refine Exists.intro _ (And.intro atI_zero ?_) | refine Exists.intro _ (And.intro atI_one ?_) | refine Exists.intro _ (And.intro (atI_last _ _) ?_) | refine Exists.intro _ (And.intro (setAt_last _ _ _) ?_) | refine Exists.intro _ (Exists.intro _ (Exists.intro _ (Exists.intro _ (And.intro rfl ?_)))) | refine Exists.intro _ (And.intro rfl ?_) | refine Exists.intro _ (Exists.intro _ (And.intro rfl ?_)) | refine Exists.intro _ (Exists.intro _ (Exists.intro _ (And.intro rfl ?_))) | refine And.intro (cdivW_small (by first | decide | omega) (by first | decide | omega)) ?_ | refine And.intro (.inl (.inl ⟨by omega, by omega⟩)) ?_ | refine And.intro (.inl (.inr ⟨by omega, by omega⟩)) ?_ | refine And.intro ⟨by decide, by decide, by decide⟩ ?_ | refine And.intro (by decide) ?_ | refine And.intro (by omega) ?_ | refine And.intro (by simp only [List.length_cons, List.length_nil]; decide) ?_ | refine And.intro (by simp only [List.length_cons, List.length_nil, List.length_map, List.length_append]; omega) ?_)); (conv => whnf)
          rw [zip_next]
          refine lcQ_map ((x :: t).zip t) (fun p => .tuple [encB p.1, encB p.2]) (fun p => decide (p.2.1 - p.1.2 ≤ L)) (fun p => .int 1) (by rw [List.length_zip]; omega) (fun p hp KK S k1 k2 => ?_) ?_
          · (repeat ((conv => whnf); first | refine cnd.yes ?_ | refine cnd.no ?_ | refine cnd.decY (by first | rfl | omega) ?_ | refine cnd.decN (by omega) ?_ | refine cnd.notY (by omega) ?_ | refine cnd.notN (by first | rfl | omega) ?_ | refine cnd.decY (by simp only [List.length_cons, List.length_nil, List.length_map, List.length_append]; omega) ?_ | refine cnd.decN (by simp only [List.length_cons, List.length_nil, List.length_map, List.length_append]; omega) ?_ | refine Exists.intro _ (And.intro atI_zero ?_) | refine Exists.intro _ (And.intro atI_one ?_) | refine Exists.intro _ (And.intro (atI_last _ _) ?_) | refine Exists.intro _ (And.intro (setAt_last _ _ _) ?_) | refine Exists.intro _ (Exists.intro _ (Exists.intro _ (Exists.intro _ (And.intro rfl ?_)))) | refine Exists.intro _ (And.intro rfl ?_) | refine Exists.intro _ (Exists.intro _ (And.intro rfl ?_)) | refine Exists.intro _ (Exists.intro _ (Exists.intro _ (And.intro rfl ?_))) | refine And.intro (cdivW_small (by first | decide | omega) (by first | decide | omega)) ?_ | refine And.intro (.inl (.inl ⟨by omega, by omega⟩)) ?_ | refine And.intro (.inl (.inr ⟨by omega, by omega⟩)) ?_ | refine And.intro ⟨by decide, by decide, by decide⟩ ?_ | refine And.intro (by decide) ?_ | refine And.intro (by omega) ?_ | refine And.intro (by simp only [List.length_cons, List.length_nil]; decide) ?_ | refine And.intro (by simp only [List.length_cons, List.length_nil, List.length_map, List.length_append]; omega) ?_)); (conv => whnf)
            refine .dec (fun h => ?_) fun h => ?_
            · (repeat ((conv => whnf); first | refine cnd.yes ?_ | refine cnd.no ?_ | refine cnd.decY (by first | rfl | omega) ?_ | refine cnd.decN (by omega) ?_ | refine cnd.notY (by omega) ?_ | refine cnd.notN (by first | rfl | omega) ?_ | refine cnd.decY (by simp only [List.length_cons, List.length_nil, List.length_map, List.length_append]; omega) ?_ | refine cnd.decN (by simp only [List.length_cons, List.length_nil, List.length_map, List.length_append]; omega) ?_ | refine Exists.intro _ (And.intro atI_zero ?_) | refine Exists.intro _ (And.intro atI_one ?_) | refine Exists.intro _ (And.intro (atI_last _ _) ?_) | refine Exists.intro _ (And.intro (setAt_last _ _ _) ?_) | refine Exists.intro _ (Exists.intro _ (Exists.intro _ (Exists.intro _ (And.intro rfl ?_)))) | refine Exists.intro _ (And.intro rfl ?_) | refine Exists.intro _ (Exists.intro _ (And.intro rfl ?_)) | refine Exists.intro _ (Exists.intro _ (Exists.intro _ (And.intro rfl ?_))) | refine And.intro (cdivW_small (by first | decide | omega) (by first | decide | omega)) ?_ | refine And.intro (.inl (.inl ⟨by omega, by omega⟩)) ?_ | refine And.intro (.inl (.inr ⟨by omega, by omega⟩)) ?_ | refine And.intro ⟨by decide, by decide, by decide⟩ ?_ | refine And.intro (by decide) ?_ | refine And.intro (by omega) ?_ | refine And.intro (by simp only [List.length_cons, List.length_nil]; decide) ?_ | refine And.intro (by simp only [List.length_cons, List.length_nil, List.length_map, List.length_append]; omega) ?_)); (conv => whnf)
              exact k1 (decide_eq_true h)
            · exact k2 (decide_eq_false h)
          · have lf : (((x :: t).zip t).filter fun p => decide (p.2.1 - p.1.2 ≤ L)).length ≤ 16000000 := Nat.le_trans (List.length_filter_le _ _) (by rw [List.length_zip]; omega)
            (repeat ((conv => whnf); first | refine cnd.yes ?_ | refine cnd.no ?_ | refine cnd.decY (by first | rfl | omega) ?_ | refine cnd.decN (by omega) ?_ | refine cnd.notY (by omega) ?_ | refine cnd.notN (by first | rfl | omega) ?_ | refine cnd.decY (by simp only [List.length_cons, List.length_nil, List.length_map, List.length_append]; omega) ?_ | refine cnd.decN (by simp only [List.length_cons, List.length_nil, List.length_map, List.length_append]; omega) ?_ | refine Exists.intro _ (And.intro atI_zero ?_) | refine Exists.intro _ (And.intro atI_one ?_) | refine Exists.intro _ (And.intro (atI_last _ _) ?_) | refine Exists.intro _ (And.intro (setAt_last _ _ _) ?_) | refine Exists.intro _ (Exists.intro _ (Exists.intro _ (Exists.intro _ (And.intro rfl ?_)))) | refine Exists.intro _ (And.intro rfl ?_) | refine Exists.intro _ (Exists.intro _ (And.intro rfl ?_)) | refine Exists.intro _ (Exists.intro _ (Exists.intro _ (And.intro rfl ?_))) | refine And.intro (cdivW_small (by first | decide | omega) (by first | decide | omega)) ?_ | refine And.intro (.inl (.inl ⟨by omega, by omega⟩)) ?_ | refine And.intro (.inl (.inr ⟨by omega, by omega⟩)) ?_ | refine And.intro ⟨by decide, by decide, by decide⟩ ?_ | refine And.intro (by decide) ?_ | refine And.intro (by omega) ?_ | refine And.intro (by simp only [List.length_cons, List.length_nil]; decide) ?_ | refine And.intro (by simp only [List.length_cons, List.length_nil, List.length_map, List.length_append]; omega) ?_)); (conv => whnf)
            refine ⟨⟨shaped_of (n := 2) ⟨by rw [List.length_map]; exact lf, fun d hd => by
              obtain ⟨_, _, rfl⟩ := List.mem_map.mp hd
              exact trivial⟩ (by decide), shaped_nil⟩, ?_⟩
            rw [eqv_listNil]
            (repeat ((conv => whnf); first | refine cnd.yes ?_ | refine cnd.no ?_ | refine cnd.decY (by first | rfl | omega) ?_ | refine cnd.decN (by omega) ?_ | refine cnd.notY (by omega) ?_ | refine cnd.notN (by first | rfl | omega) ?_ | refine cnd.decY (by simp only [List.length_cons, List.length_nil, List.length_map, List.length_append]; omega) ?_ | refine cnd.decN (by simp only [List.length_cons, List.length_nil, List.length_map, List.length_append]; omega) ?_ | refine Exists.intro _ (And.intro atI_zero ?_) | refine Exists.intro _ (And.intro atI_one ?_) | refine Exists.intro _ (And.intro (atI_last _ _) ?_) | refine Exists.intro _ (And.intro (setAt_last _ _ _) ?_) | refine Exists.intro _ (Exists.intro _ (Exists.intro _ (Exists.intro _ (And.intro rfl ?_)))) | refine Exists.intro _ (And.intro rfl ?_) | refine Exists.intro _ (Exists.intro _ (And.intro rfl ?_)) | refine Exists.intro _ (Exists.intro _ (Exists.intro _ (And.intro rfl ?_))) | refine And.intro (cdivW_small (by first | decide | omega) (by first | decide | omega)) ?_ | refine And.intro (.inl (.inl ⟨by omega, by omega⟩)) ?_ | refine And.intro (.inl (.inr ⟨by omega, by omega⟩)) ?_ | refine And.intro ⟨by decide, by decide, by decide⟩ ?_ | refine And.intro (by decide) ?_ | refine And.intro (by omega) ?_ | refine And.intro (by simp only [List.length_cons, List.length_nil]; decide) ?_ | refine And.intro (by simp only [List.length_cons, List.length_nil, List.length_map, List.length_append]; omega) ?_)); (conv => whnf)
            have ef : fineB L (x :: t) = ((((x :: t).zip t).filter fun p => decide (p.2.1 - p.1.2 ≤ L)).map fun p => PyData.int 1).isEmpty := by
              show (decide (2 * L ≤ x.1) && _) = _
              rw [decide_eq_true h, Bool.true_and, List.isEmpty_map]
            rw [ef]
            exact ⟨_, _, _, _, _, _, rfl⟩
        · (repeat ((conv => whnf); first | refine cnd.yes ?_ | refine cnd.no ?_ | refine cnd.decY (by first | rfl | omega) ?_ | refine cnd.decN (by omega) ?_ | refine cnd.notY (by omega) ?_ | refine cnd.notN (by first | rfl | omega) ?_ | refine cnd.decY (by simp only [List.length_cons, List.length_nil, List.length_map, List.length_append]; omega) ?_ | refine cnd.decN (by simp only [List.length_cons, List.length_nil, List.length_map, List.length_append]; omega) ?_ | refine Exists.intro _ (And.intro atI_zero ?_) | refine Exists.intro _ (And.intro atI_one ?_) | refine Exists.intro _ (And.intro (atI_last _ _) ?_) | refine Exists.intro _ (And.intro (setAt_last _ _ _) ?_) | refine Exists.intro _ (Exists.intro _ (Exists.intro _ (Exists.intro _ (And.intro rfl ?_)))) | refine Exists.intro _ (And.intro rfl ?_) | refine Exists.intro _ (Exists.intro _ (And.intro rfl ?_)) | refine Exists.intro _ (Exists.intro _ (Exists.intro _ (And.intro rfl ?_))) | refine And.intro (cdivW_small (by first | decide | omega) (by first | decide | omega)) ?_ | refine And.intro (.inl (.inl ⟨by omega, by omega⟩)) ?_ | refine And.intro (.inl (.inr ⟨by omega, by omega⟩)) ?_ | refine And.intro ⟨by decide, by decide, by decide⟩ ?_ | refine And.intro (by decide) ?_ | refine And.intro (by omega) ?_ | refine And.intro (by simp only [List.length_cons, List.length_nil]; decide) ?_ | refine And.intro (by simp only [List.length_cons, List.length_nil, List.length_map, List.length_append]; omega) ?_)); (conv => whnf)
          have ef : fineB L (x :: t) = false := by
            show (decide (2 * L ≤ x.1) && _) = _
            rw [decide_eq_false h, Bool.false_and]
          rw [ef]
          exact ⟨_, _, _, _, _, _, rfl⟩
    · rintro ρ ⟨s4, s5, s8, s9, s10, s11, rfl⟩
      conv => whnf
      refine ⟨L, .inr (.inr ⟨bs, rfl, by omega, ?_⟩)⟩
      rw [hfv]
      conv => whnf
      refine ⟨L, .inr (.inl ⟨_, rfl, ?_⟩)⟩
      conv => whnf
      refine .dec (fun h => ?_) fun h => ?_
      · have hb : validB L bs.reverse = false := by
          have h2 : 2 ≤ bs.length := by rw [List.length_map] at h; omega
          obtain ⟨x, y, t, e⟩ : ∃ x y t, bs = x :: y :: t := by
            match bs, h2 with
            | x :: y :: t, _ => exact ⟨x, y, t, rfl⟩
          have hx := hbs x (by rw [e]; exact List.mem_cons_self)
          have hy := hbs y (by rw [e]; exact List.mem_cons_of_mem _ List.mem_cons_self)
          rw [e] at hpw ⊢
          exact rev_bad hL ((List.pairwise_cons.mp hpw).1 y List.mem_cons_self) hx.2.1 hy.2.1
        (repeat ((conv => whnf); first | refine cnd.yes ?_ | refine cnd.no ?_ | refine cnd.decY (by first | rfl | omega) ?_ | refine cnd.decN (by omega) ?_ | refine cnd.notY (by omega) ?_ | refine cnd.notN (by first | rfl | omega) ?_ | refine cnd.decY (by simp only [List.length_cons, List.length_nil, List.length_map, List.length_append]; omega) ?_ | refine cnd.decN (by simp only [List.length_cons, List.length_nil, List.length_map, List.length_append]; omega) ?_ | refine Exists.intro _ (And.intro atI_zero ?_) | refine Exists.intro _ (And.intro atI_one ?_) | refine Exists.intro _ (And.intro (atI_last _ _) ?_) | refine Exists.intro _ (And.intro (setAt_last _ _ _) ?_) | refine Exists.intro _ (Exists.intro _ (Exists.intro _ (Exists.intro _ (And.intro rfl ?_)))) | refine Exists.intro _ (And.intro rfl ?_) | refine Exists.intro _ (Exists.intro _ (And.intro rfl ?_)) | refine Exists.intro _ (Exists.intro _ (Exists.intro _ (And.intro rfl ?_))) | refine And.intro (cdivW_small (by first | decide | omega) (by first | decide | omega)) ?_ | refine And.intro (.inl (.inl ⟨by omega, by omega⟩)) ?_ | refine And.intro (.inl (.inr ⟨by omega, by omega⟩)) ?_ | refine And.intro ⟨by decide, by decide, by decide⟩ ?_ | refine And.intro (by decide) ?_ | refine And.intro (by omega) ?_ | refine And.intro (by simp only [List.length_cons, List.length_nil]; decide) ?_ | refine And.intro (by simp only [List.length_cons, List.length_nil, List.length_map, List.length_append]; omega) ?_)); (conv => whnf)
        refine ⟨L, .inr (.inr ⟨bs.reverse, by rw [List.map_reverse], by rw [List.length_reverse]; omega, ?_⟩)⟩
        rw [hb]
        (repeat ((conv => whnf); first | refine cnd.yes ?_ | refine cnd.no ?_ | refine cnd.decY (by first | rfl | omega) ?_ | refine cnd.decN (by omega) ?_ | refine cnd.notY (by omega) ?_ | refine cnd.notN (by first | rfl | omega) ?_ | refine cnd.decY (by simp only [List.length_cons, List.length_nil, List.length_map, List.length_append]; omega) ?_ | refine cnd.decN (by simp only [List.length_cons, List.length_nil, List.length_map, List.length_append]; omega) ?_ | refine Exists.intro _ (And.intro atI_zero ?_) | refine Exists.intro _ (And.intro atI_one ?_) | refine Exists.intro _ (And.intro (atI_last _ _) ?_) | refine Exists.intro _ (And.intro (setAt_last _ _ _) ?_) | refine Exists.intro _ (Exists.intro _ (Exists.intro _ (Exists.intro _ (And.intro rfl ?_)))) | refine Exists.intro _ (And.intro rfl ?_) | refine Exists.intro _ (Exists.intro _ (And.intro rfl ?_)) | refine Exists.intro _ (Exists.intro _ (Exists.intro _ (And.intro rfl ?_))) | refine And.intro (cdivW_small (by first | decide | omega) (by first | decide | omega)) ?_ | refine And.intro (.inl (.inl ⟨by omega, by omega⟩)) ?_ | refine And.intro (.inl (.inr ⟨by omega, by omega⟩)) ?_ | refine And.intro ⟨by decide, by decide, by decide⟩ ?_ | refine And.intro (by decide) ?_ | refine And.intro (by omega) ?_ | refine And.intro (by simp only [List.length_cons, List.length_nil]; decide) ?_ | refine And.intro (by simp only [List.length_cons, List.length_nil, List.length_map, List.length_append]; omega) ?_)); (conv => whnf)
        cases hf : fineB L bs with
        | true =>
          (repeat ((conv => whnf); first | refine cnd.yes ?_ | refine cnd.no ?_ | refine cnd.decY (by first | rfl | omega) ?_ | refine cnd.decN (by omega) ?_ | refine cnd.notY (by omega) ?_ | refine cnd.notN (by first | rfl | omega) ?_ | refine cnd.decY (by simp only [List.length_cons, List.length_nil, List.length_map, List.length_append]; omega) ?_ | refine cnd.decN (by simp only [List.length_cons, List.length_nil, List.length_map, List.length_append]; omega) ?_ | refine Exists.intro _ (And.intro atI_zero ?_) | refine Exists.intro _ (And.intro atI_one ?_) | refine Exists.intro _ (And.intro (atI_last _ _) ?_) | refine Exists.intro _ (And.intro (setAt_last _ _ _) ?_) | refine Exists.intro _ (Exists.intro _ (Exists.intro _ (Exists.intro _ (And.intro rfl ?_)))) | refine Exists.intro _ (And.intro rfl ?_) | refine Exists.intro _ (Exists.intro _ (And.intro rfl ?_)) | refine Exists.intro _ (Exists.intro _ (Exists.intro _ (And.intro rfl ?_))) | refine And.intro (cdivW_small (by first | decide | omega) (by first | decide | omega)) ?_ | refine And.intro (.inl (.inl ⟨by omega, by omega⟩)) ?_ | refine And.intro (.inl (.inr ⟨by omega, by omega⟩)) ?_ | refine And.intro ⟨by decide, by decide, by decide⟩ ?_ | refine And.intro (by decide) ?_ | refine And.intro (by omega) ?_ | refine And.intro (by simp only [List.length_cons, List.length_nil]; decide) ?_ | refine And.intro (by simp only [List.length_cons, List.length_nil, List.length_map, List.length_append]; omega) ?_)); (conv => whnf)
          refine ⟨some bs, rfl, fun cs e => by cases e; omega, ?_⟩
          (repeat ((conv => whnf); first | refine cnd.yes ?_ | refine cnd.no ?_ | refine cnd.decY (by first | rfl | omega) ?_ | refine cnd.decN (by omega) ?_ | refine cnd.notY (by omega) ?_ | refine cnd.notN (by first | rfl | omega) ?_ | refine cnd.decY (by simp only [List.length_cons, List.length_nil, List.length_map, List.length_append]; omega) ?_ | refine cnd.decN (by simp only [List.length_cons, List.length_nil, List.length_map, List.length_append]; omega) ?_ | refine Exists.intro _ (And.intro atI_zero ?_) | refine Exists.intro _ (And.intro atI_one ?_) | refine Exists.intro _ (And.intro (atI_last _ _) ?_) | refine Exists.intro _ (And.intro (setAt_last _ _ _) ?_) | refine Exists.intro _ (Exists.intro _ (Exists.intro _ (Exists.intro _ (And.intro rfl ?_)))) | refine Exists.intro _ (And.intro rfl ?_) | refine Exists.intro _ (Exists.intro _ (And.intro rfl ?_)) | refine Exists.intro _ (Exists.intro _ (Exists.intro _ (And.intro rfl ?_))) | refine And.intro (cdivW_small (by first | decide | omega) (by first | decide | omega)) ?_ | refine And.intro (.inl (.inl ⟨by omega, by omega⟩)) ?_ | refine And.intro (.inl (.inr ⟨by omega, by omega⟩)) ?_ | refine And.intro ⟨by decide, by decide, by decide⟩ ?_ | refine And.intro (by decide) ?_ | refine And.intro (by omega) ?_ | refine And.intro (by simp only [List.length_cons, List.length_nil]; decide) ?_ | refine And.intro (by simp only [List.length_cons, List.length_nil, List.length_map, List.length_append]; omega) ?_)); (conv => whnf)
          refine lcQ_all bs encB (fun b => .int (b.2 - b.1 + 1)) (by omega) (fun x hx KK S hK => ?_) ?_
          · (repeat ((conv => whnf); first | refine cnd.yes ?_ | refine cnd.no ?_ | refine cnd.decY (by first | rfl | omega) ?_ | refine cnd.decN (by omega) ?_ | refine cnd.notY (by omega) ?_ | refine cnd.notN (by first | rfl | omega) ?_ | refine cnd.decY (by simp only [List.length_cons, List.length_nil, List.length_map, List.length_append]; omega) ?_ | refine cnd.decN (by simp only [List.length_cons, List.length_nil, List.length_map, List.length_append]; omega) ?_ | refine Exists.intro _ (And.intro atI_zero ?_) | refine Exists.intro _ (And.intro atI_one ?_) | refine Exists.intro _ (And.intro (atI_last _ _) ?_) | refine Exists.intro _ (And.intro (setAt_last _ _ _) ?_) | refine Exists.intro _ (Exists.intro _ (Exists.intro _ (Exists.intro _ (And.intro rfl ?_)))) | refine Exists.intro _ (And.intro rfl ?_) | refine Exists.intro _ (Exists.intro _ (And.intro rfl ?_)) | refine Exists.intro _ (Exists.intro _ (Exists.intro _ (And.intro rfl ?_))) | refine And.intro (cdivW_small (by first | decide | omega) (by first | decide | omega)) ?_ | refine And.intro (.inl (.inl ⟨by omega, by omega⟩)) ?_ | refine And.intro (.inl (.inr ⟨by omega, by omega⟩)) ?_ | refine And.intro ⟨by decide, by decide, by decide⟩ ?_ | refine And.intro (by decide) ?_ | refine And.intro (by omega) ?_ | refine And.intro (by simp only [List.length_cons, List.length_nil]; decide) ?_ | refine And.intro (by simp only [List.length_cons, List.length_nil, List.length_map, List.length_append]; omega) ?_)); (conv => whnf)
            exact hK
          · conv => whnf
            refine ⟨bs.map fun b => b.2 - b.1 + 1, by rw [ints_is]; rfl, ?_⟩
            (repeat ((conv => whnf); first | refine cnd.yes ?_ | refine cnd.no ?_ | refine cnd.decY (by first | rfl | omega) ?_ | refine cnd.decN (by omega) ?_ | refine cnd.notY (by omega) ?_ | refine cnd.notN (by first | rfl | omega) ?_ | refine cnd.decY (by simp only [List.length_cons, List.length_nil, List.length_map, List.length_append]; omega) ?_ | refine cnd.decN (by simp only [List.length_cons, List.length_nil, List.length_map, List.length_append]; omega) ?_ | refine Exists.intro _ (And.intro atI_zero ?_) | refine Exists.intro _ (And.intro atI_one ?_) | refine Exists.intro _ (And.intro (atI_last _ _) ?_) | refine Exists.intro _ (And.intro (setAt_last _ _ _) ?_) | refine Exists.intro _ (Exists.intro _ (Exists.intro _ (Exists.intro _ (And.intro rfl ?_)))) | refine Exists.intro _ (And.intro rfl ?_) | refine Exists.intro _ (Exists.intro _ (And.intro rfl ?_)) | refine Exists.intro _ (Exists.intro _ (Exists.intro _ (And.intro rfl ?_))) | refine And.intro (cdivW_small (by first | decide | omega) (by first | decide | omega)) ?_ | refine And.intro (.inl (.inl ⟨by omega, by omega⟩)) ?_ | refine And.intro (.inl (.inr ⟨by omega, by omega⟩)) ?_ | refine And.intro ⟨by decide, by decide, by decide⟩ ?_ | refine And.intro (by decide) ?_ | refine And.intro (by omega) ?_ | refine And.intro (by simp only [List.length_cons, List.length_nil]; decide) ?_ | refine And.intro (by simp only [List.length_cons, List.length_nil, List.length_map, List.length_append]; omega) ?_)); (conv => whnf)
            refine ⟨okN_L ⟨trivial, trivial, trivial, trivial, trivial⟩, ?_⟩
            (repeat ((conv => whnf); first | refine cnd.yes ?_ | refine cnd.no ?_ | refine cnd.decY (by first | rfl | omega) ?_ | refine cnd.decN (by omega) ?_ | refine cnd.notY (by omega) ?_ | refine cnd.notN (by first | rfl | omega) ?_ | refine cnd.decY (by simp only [List.length_cons, List.length_nil, List.length_map, List.length_append]; omega) ?_ | refine cnd.decN (by simp only [List.length_cons, List.length_nil, List.length_map, List.length_append]; omega) ?_ | refine Exists.intro _ (And.intro atI_zero ?_) | refine Exists.intro _ (And.intro atI_one ?_) | refine Exists.intro _ (And.intro (atI_last _ _) ?_) | refine Exists.intro _ (And.intro (setAt_last _ _ _) ?_) | refine Exists.intro _ (Exists.intro _ (Exists.intro _ (Exists.intro _ (And.intro rfl ?_)))) | refine Exists.intro _ (And.intro rfl ?_) | refine Exists.intro _ (Exists.intro _ (And.intro rfl ?_)) | refine Exists.intro _ (Exists.intro _ (Exists.intro _ (And.intro rfl ?_))) | refine And.intro (cdivW_small (by first | decide | omega) (by first | decide | omega)) ?_ | refine And.intro (.inl (.inl ⟨by omega, by omega⟩)) ?_ | refine And.intro (.inl (.inr ⟨by omega, by omega⟩)) ?_ | refine And.intro ⟨by decide, by decide, by decide⟩ ?_ | refine And.intro (by decide) ?_ | refine And.intro (by omega) ?_ | refine And.intro (by simp only [List.length_cons, List.length_nil]; decide) ?_ | refine And.intro (by simp only [List.length_cons, List.length_nil, List.length_map, List.length_append]; omega) ?_)); (conv => whnf)
            exact ⟨rfl, q r' (by omega)⟩
        | false =>
          (repeat ((conv => whnf); first | refine cnd.yes ?_ | refine cnd.no ?_ | refine cnd.decY (by first | rfl | omega) ?_ | refine cnd.decN (by omega) ?_ | refine cnd.notY (by omega) ?_ | refine cnd.notN (by first | rfl | omega) ?_ | refine cnd.decY (by simp only [List.length_cons, List.length_nil, List.length_map, List.length_append]; omega) ?_ | refine cnd.decN (by simp only [List.length_cons, List.length_nil, List.length_map, List.length_append]; omega) ?_ | refine Exists.intro _ (And.intro atI_zero ?_) | refine Exists.intro _ (And.intro atI_one ?_) | refine Exists.intro _ (And.intro (atI_last _ _) ?_) | refine Exists.intro _ (And.intro (setAt_last _ _ _) ?_) | refine Exists.intro _ (Exists.intro _ (Exists.intro _ (Exists.intro _ (And.intro rfl ?_)))) | refine Exists.intro _ (And.intro rfl ?_) | refine Exists.intro _ (Exists.intro _ (And.intro rfl ?_)) | refine Exists.intro _ (Exists.intro _ (Exists.intro _ (And.intro rfl ?_))) | refine And.intro (cdivW_small (by first | decide | omega) (by first | decide | omega)) ?_ | refine And.intro (.inl (.inl ⟨by omega, by omega⟩)) ?_ | refine And.intro (.inl (.inr ⟨by omega, by omega⟩)) ?_ | refine And.intro ⟨by decide, by decide, by decide⟩ ?_ | refine And.intro (by decide) ?_ | refine And.intro (by omega) ?_ | refine And.intro (by simp only [List.length_cons, List.length_nil]; decide) ?_ | refine And.intro (by simp only [List.length_cons, List.length_nil, List.length_map, List.length_append]; omega) ?_)); (conv => whnf)
          refine ⟨okN_L ⟨trivial, trivial, trivial, trivial, trivial⟩, ?_⟩
          (repeat ((conv => whnf); first | refine cnd.yes ?_ | refine cnd.no ?_ | refine cnd.decY (by first | rfl | omega) ?_ | refine cnd.decN (by omega) ?_ | refine cnd.notY (by omega) ?_ | refine cnd.notN (by first | rfl | omega) ?_ | refine cnd.decY (by simp only [List.length_cons, List.length_nil, List.length_map, List.length_append]; omega) ?_ | refine cnd.decN (by simp only [List.length_cons, List.length_nil, List.length_map, List.length_append]; omega) ?_ | refine Exists.intro _ (And.intro atI_zero ?_) | refine Exists.intro _ (And.intro atI_one ?_) | refine Exists.intro _ (And.intro (atI_last _ _) ?_) | refine Exists.intro _ (And.intro (setAt_last _ _ _) ?_) | refine Exists.intro _ (Exists.intro _ (Exists.intro _ (Exists.intro _ (And.intro rfl ?_)))) | refine Exists.intro _ (And.intro rfl ?_) | refine Exists.intro _ (Exists.intro _ (And.intro rfl ?_)) | refine Exists.intro _ (Exists.intro _ (Exists.intro _ (And.intro rfl ?_))) | refine And.intro (cdivW_small (by first | decide | omega) (by first | decide | omega)) ?_ | refine And.intro (.inl (.inl ⟨by omega, by omega⟩)) ?_ | refine And.intro (.inl (.inr ⟨by omega, by omega⟩)) ?_ | refine And.intro ⟨by decide, by decide, by decide⟩ ?_ | refine And.intro (by decide) ?_ | refine And.intro (by omega) ?_ | refine And.intro (by simp only [List.length_cons, List.length_nil]; decide) ?_ | refine And.intro (by simp only [List.length_cons, List.length_nil, List.length_map, List.length_append]; omega) ?_)); (conv => whnf)
          exact ⟨rfl, q r' (by omega)⟩
      · (repeat ((conv => whnf); first | refine cnd.yes ?_ | refine cnd.no ?_ | refine cnd.decY (by first | rfl | omega) ?_ | refine cnd.decN (by omega) ?_ | refine cnd.notY (by omega) ?_ | refine cnd.notN (by first | rfl | omega) ?_ | refine cnd.decY (by simp only [List.length_cons, List.length_nil, List.length_map, List.length_append]; omega) ?_ | refine cnd.decN (by simp only [List.length_cons, List.length_nil, List.length_map, List.length_append]; omega) ?_ | refine Exists.intro _ (And.intro atI_zero ?_) | refine Exists.intro _ (And.intro atI_one ?_) | refine Exists.intro _ (And.intro (atI_last _ _) ?_) | refine Exists.intro _ (And.intro (setAt_last _ _ _) ?_) | refine Exists.intro _ (Exists.intro _ (Exists.intro _ (Exists.intro _ (And.intro rfl ?_)))) | refine Exists.intro _ (And.intro rfl ?_) | refine Exists.intro _ (Exists.intro _ (And.intro rfl ?_)) | refine Exists.intro _ (Exists.intro _ (Exists.intro _ (And.intro rfl ?_))) | refine And.intro (cdivW_small (by first | decide | omega) (by first | decide | omega)) ?_ | refine And.intro (.inl (.inl ⟨by omega, by omega⟩)) ?_ | refine And.intro (.inl (.inr ⟨by omega, by omega⟩)) ?_ | refine And.intro ⟨by decide, by decide, by decide⟩ ?_ | refine And.intro (by decide) ?_ | refine And.intro (by omega) ?_ | refine And.intro (by simp only [List.length_cons, List.length_nil]; decide) ?_ | refine And.intro (by simp only [List.length_cons, List.length_nil, List.length_map, List.length_append]; omega) ?_)); (conv => whnf)
        (repeat ((conv => whnf); first | refine cnd.yes ?_ | refine cnd.no ?_ | refine cnd.decY (by first | rfl | omega) ?_ | refine cnd.decN (by omega) ?_ | refine cnd.notY (by omega) ?_ | refine cnd.notN (by first | rfl | omega) ?_ | refine cnd.decY (by simp only [List.length_cons, List.length_nil, List.length_map, List.length_append]; omega) ?_ | refine cnd.decN (by simp only [List.length_cons, List.length_nil, List.length_map, List.length_append]; omega) ?_ | refine Exists.intro _ (And.intro atI_zero ?_) | refine Exists.intro _ (And.intro atI_one ?_) | refine Exists.intro _ (And.intro (atI_last _ _) ?_) | refine Exists.intro _ (And.intro (setAt_last _ _ _) ?_) | refine Exists.intro _ (Exists.intro _ (Exists.intro _ (Exists.intro _ (And.intro rfl ?_)))) | refine Exists.intro _ (And.intro rfl ?_) | refine Exists.intro _ (Exists.intro _ (And.intro rfl ?_)) | refine Exists.intro _ (Exists.intro _ (Exists.intro _ (And.intro rfl ?_))) | refine And.intro (cdivW_small (by first | decide | omega) (by first | decide | omega)) ?_ | refine And.intro (.inl (.inl ⟨by omega, by omega⟩)) ?_ | refine And.intro (.inl (.inr ⟨by omega, by omega⟩)) ?_ | refine And.intro ⟨by decide, by decide, by decide⟩ ?_ | refine And.intro (by decide) ?_ | refine And.intro (by omega) ?_ | refine And.intro (by simp only [List.length_cons, List.length_nil]; decide) ?_ | refine And.intro (by simp only [List.length_cons, List.length_nil, List.length_map, List.length_append]; omega) ?_)); (conv => whnf)
        cases hf : fineB L bs with
        | true =>
          (repeat ((conv => whnf); first | refine cnd.yes ?_ | refine cnd.no ?_ | refine cnd.decY (by first | rfl | omega) ?_ | refine cnd.decN (by omega) ?_ | refine cnd.notY (by omega) ?_ | refine cnd.notN (by first | rfl | omega) ?_ | refine cnd.decY (by simp only [List.length_cons, List.length_nil, List.length_map, List.length_append]; omega) ?_ | refine cnd.decN (by simp only [List.length_cons, List.length_nil, List.length_map, List.length_append]; omega) ?_ | refine Exists.intro _ (And.intro atI_zero ?_) | refine Exists.intro _ (And.intro atI_one ?_) | refine Exists.intro _ (And.intro (atI_last _ _) ?_) | refine Exists.intro _ (And.intro (setAt_last _ _ _) ?_) | refine Exists.intro _ (Exists.intro _ (Exists.intro _ (Exists.intro _ (And.intro rfl ?_)))) | refine Exists.intro _ (And.intro rfl ?_) | refine Exists.intro _ (Exists.intro _ (And.intro rfl ?_)) | refine Exists.intro _ (Exists.intro _ (Exists.intro _ (And.intro rfl ?_))) | refine And.intro (cdivW_small (by first | decide | omega) (by first | decide | omega)) ?_ | refine And.intro (.inl (.inl ⟨by omega, by omega⟩)) ?_ | refine And.intro (.inl (.inr ⟨by omega, by omega⟩)) ?_ | refine And.intro ⟨by decide, by decide, by decide⟩ ?_ | refine And.intro (by decide) ?_ | refine And.intro (by omega) ?_ | refine And.intro (by simp only [List.length_cons, List.length_nil]; decide) ?_ | refine And.intro (by simp only [List.length_cons, List.length_nil, List.length_map, List.length_append]; omega) ?_)); (conv => whnf)
          refine ⟨some bs, rfl, fun cs e => by cases e; omega, ?_⟩
          (repeat ((conv => whnf); first | refine cnd.yes ?_ | refine cnd.no ?_ | refine cnd.decY (by first | rfl | omega) ?_ | refine cnd.decN (by omega) ?_ | refine cnd.notY (by omega) ?_ | refine cnd.notN (by first | rfl | omega) ?_ | refine cnd.decY (by simp only [List.length_cons, List.length_nil, List.length_map, List.length_append]; omega) ?_ | refine cnd.decN (by simp only [List.length_cons, List.length_nil, List.length_map, List.length_append]; omega) ?_ | refine Exists.intro _ (And.intro atI_zero ?_) | refine Exists.intro _ (And.intro atI_one ?_) | refine Exists.intro _ (And.intro (atI_last _ _) ?_) | refine Exists.intro _ (And.intro (setAt_last _ _ _) ?_) | refine Exists.intro _ (Exists.intro _ (Exists.intro _ (Exists.intro _ (And.intro rfl ?_)))) | refine Exists.intro _ (And.intro rfl ?_) | refine Exists.intro _ (Exists.intro _ (And.intro rfl ?_)) | refine Exists.intro _ (Exists.intro _ (Exists.intro _ (And.intro rfl ?_))) | refine And.intro (cdivW_small (by first | decide | omega) (by first | decide | omega)) ?_ | refine And.intro (.inl (.inl ⟨by omega, by omega⟩)) ?_ | refine And.intro (.inl (.inr ⟨by omega, by omega⟩)) ?_ | refine And.intro ⟨by decide, by decide, by decide⟩ ?_ | refine And.intro (by decide) ?_ | refine And.intro (by omega) ?_ | refine And.intro (by simp only [List.length_cons, List.length_nil]; decide) ?_ | refine And.intro (by simp only [List.length_cons, List.length_nil, List.length_map, List.length_append]; omega) ?_)); (conv => whnf)
          refine lcQ_all bs encB (fun b => .int (b.2 - b.1 + 1)) (by omega) (fun x hx KK S hK => ?_) ?_
          · (repeat ((conv => whnf); first | refine cnd.yes ?_ | refine cnd.no ?_ | refine cnd.decY (by first | rfl | omega) ?_ | refine cnd.decN (by omega) ?_ | refine cnd.notY (by omega) ?_ | refine cnd.notN (by first | rfl | omega) ?_ | refine cnd.decY (by simp only [List.length_cons, List.length_nil, List.length_map, List.length_append]; omega) ?_ | refine cnd.decN (by simp only [List.length_cons, List.length_nil, List.length_map, List.length_append]; omega) ?_ | refine Exists.intro _ (And.intro atI_zero ?_) | refine Exists.intro _ (And.intro atI_one ?_) | refine Exists.intro _ (And.intro (atI_last _ _) ?_) | refine Exists.intro _ (And.intro (setAt_last _ _ _) ?_) | refine Exists.intro _ (Exists.intro _ (Exists.intro _ (Exists.intro _ (And.intro rfl ?_)))) | refine Exists.intro _ (And.intro rfl ?_) | refine Exists.intro _ (Exists.intro _ (And.intro rfl ?_)) | refine Exists.intro _ (Exists.intro _ (Exists.intro _ (And.intro rfl ?_))) | refine And.intro (cdivW_small (by first | decide | omega) (by first | decide | omega)) ?_ | refine And.intro (.inl (.inl ⟨by omega, by omega⟩)) ?_ | refine And.intro (.inl (.inr ⟨by omega, by omega⟩)) ?_ | refine And.intro ⟨by decide, by decide, by decide⟩ ?_ | refine And.intro (by decide) ?_ | refine And.intro (by omega) ?_ | refine And.intro (by simp only [List.length_cons, List.length_nil]; decide) ?_ | refine And.intro (by simp only [List.length_cons, List.length_nil, List.length_map, List.length_append]; omega) ?_)); (conv => whnf)
            exact hK
          · conv => whnf
            refine ⟨bs.map fun b => b.2 - b.1 + 1, by rw [ints_is]; rfl, ?_⟩
            (repeat ((conv => whnf); first | refine cnd.yes ?_ | refine cnd.no ?_ | refine cnd.decY (by first | rfl | omega) ?_ | refine cnd.decN (by omega) ?_ | refine cnd.notY (by omega) ?_ | refine cnd.notN (by first | rfl | omega) ?_ | refine cnd.decY (by simp only [List.length_cons, List.length_nil, List.length_map, List.length_append]; omega) ?_ | refine cnd.decN (by simp only [List.length_cons, List.length_nil, List.length_map, List.length_append]; omega) ?_ | refine Exists.intro _ (And.intro atI_zero ?_) | refine Exists.intro _ (And.intro atI_one ?_) | refine Exists.intro _ (And.intro (atI_last _ _) ?_) | refine Exists.intro _ (And.intro (setAt_last _ _ _) ?_) | refine Exists.intro _ (Exists.intro _ (Exists.intro _ (Exists.intro _ (And.intro rfl ?_)))) | refine Exists.intro _ (And.intro rfl ?_) | refine Exists.intro _ (Exists.intro _ (And.intro rfl ?_)) | refine Exists.intro _ (Exists.intro _ (Exists.intro _ (And.intro rfl ?_))) | refine And.intro (cdivW_small (by first | decide | omega) (by first | decide | omega)) ?_ | refine And.intro (.inl (.inl ⟨by omega, by omega⟩)) ?_ | refine And.intro (.inl (.inr ⟨by omega, by omega⟩)) ?_ | refine And.intro ⟨by decide, by decide, by decide⟩ ?_ | refine And.intro (by decide) ?_ | refine And.intro (by omega) ?_ | refine And.intro (by simp only [List.length_cons, List.length_nil]; decide) ?_ | refine And.intro (by simp only [List.length_cons, List.length_nil, List.length_map, List.length_append]; omega) ?_)); (conv => whnf)
            refine ⟨okN_L ⟨trivial, trivial, trivial, trivial, trivial⟩, ?_⟩
            (repeat ((conv => whnf); first | refine cnd.yes ?_ | refine cnd.no ?_ | refine cnd.decY (by first | rfl | omega) ?_ | refine cnd.decN (by omega) ?_ | refine cnd.notY (by omega) ?_ | refine cnd.notN (by first | rfl | omega) ?_ | refine cnd.decY (by simp only [List.length_cons, List.length_nil, List.length_map, List.length_append]; omega) ?_ | refine cnd.decN (by simp only [List.length_cons, List.length_nil, List.length_map, List.length_append]; omega) ?_ | refine Exists.intro _ (And.intro atI_zero ?_) | refine Exists.intro _ (And.intro atI_one ?_) | refine Exists.intro _ (And.intro (atI_last _ _) ?_) | refine Exists.intro _ (And.intro (setAt_last _ _ _) ?_) | refine Exists.intro _ (Exists.intro _ (Exists.intro _ (Exists.intro _ (And.intro rfl ?_)))) | refine Exists.intro _ (And.intro rfl ?_) | refine Exists.intro _ (Exists.intro _ (And.intro rfl ?_)) | refine Exists.intro _ (Exists.intro _ (Exists.intro _ (And.intro rfl ?_))) | refine And.intro (cdivW_small (by first | decide | omega) (by first | decide | omega)) ?_ | refine And.intro (.inl (.inl ⟨by omega, by omega⟩)) ?_ | refine And.intro (.inl (.inr ⟨by omega, by omega⟩)) ?_ | refine And.intro ⟨by decide, by decide, by decide⟩ ?_ | refine And.intro (by decide) ?_ | refine And.intro (by omega) ?_ | refine And.intro (by simp only [List.length_cons, List.length_nil]; decide) ?_ | refine And.intro (by simp only [List.length_cons, List.length_nil, List.length_map, List.length_append]; omega) ?_)); (conv => whnf)
            exact ⟨rfl, q r' (by omega)⟩
        | false =>
          (repeat ((conv => whnf); first | refine cnd.yes ?_ | refine cnd.no ?_ | refine cnd.decY (by first | rfl | omega) ?_ | refine cnd.decN (by omega) ?_ | refine cnd.notY (by omega) ?_ | refine cnd.notN (by first | rfl | omega) ?_ | refine cnd.decY (by simp only [List.length_cons, List.length_nil, List.length_map, List.length_append]; omega) ?_ | refine cnd.decN (by simp only [List.length_cons, List.length_nil, List.length_map, List.length_append]; omega) ?_ | refine Exists.intro _ (And.intro atI_zero ?_) | refine Exists.intro _ (And.intro atI_one ?_) | refine Exists.intro _ (And.intro (atI_last _ _) ?_) | refine Exists.intro _ (And.intro (setAt_last _ _ _) ?_) | refine Exists.intro _ (Exists.intro _ (Exists.intro _ (Exists.intro _ (And.intro rfl ?_)))) | refine Exists.intro _ (And.intro rfl ?_) | refine Exists.intro _ (Exists.intro _ (And.intro rfl ?_)) | refine Exists.intro _ (Exists.intro _ (Exists.intro _ (And.intro rfl ?_))) | refine And.intro (cdivW_small (by first | decide | omega) (by first | decide | omega)) ?_ | refine And.intro (.inl (.inl ⟨by omega, by omega⟩)) ?_ | refine And.intro (.inl (.inr ⟨by omega, by omega⟩)) ?_ | refine And.intro ⟨by decide, by decide, by decide⟩ ?_ | refine And.intro (by decide) ?_ | refine And.intro (by omega) ?_ | refine And.intro (by simp only [List.length_cons, List.length_nil]; decide) ?_ | refine And.intro (by simp only [List.length_cons, List.length_nil, List.length_map, List.length_append]; omega) ?_)); (conv => whnf)
          refine ⟨okN_L ⟨trivial, trivial, trivial, trivial, trivial⟩, ?_⟩
          (repeat ((conv => whnf); first | refine cnd.yes ?_ | refine cnd.no ?_ | refine cnd.decY (by first | rfl | omega) ?_ | refine cnd.decN (by omega) ?_ | refine cnd.notY (by omega) ?_ | refine cnd.notN (by first | rfl | omega) ?_ | refine cnd.decY (by simp only [List.length_cons, List.length_nil, List.length_map, List.length_append]; omega) ?_ | refine cnd.decN (by simp only [List.length_cons, List.length_nil, List.length_map, List.length_append]; omega) ?_ | refine Exists.intro _ (And.intro atI_zero ?_) | refine Exists.intro _ (And.intro atI_one ?_) | refine Exists.intro _ (And.intro (atI_last _ _) ?_) | refine Exists.intro _ (And.intro (setAt_last _ _ _) ?_) | refine Exists.intro _ (Exists.intro _ (Exists.intro _ (Exists.intro _ (And.intro rfl ?_)))) | refine Exists.intro _ (And.intro rfl ?_) | refine Exists.intro _ (Exists.intro _ (And.intro rfl ?_)) | refine Exists.intro _ (Exists.intro _ (Exists.intro _ (And.intro rfl ?_))) | refine And.intro (cdivW_small (by first | decide | omega) (by first | decide | omega)) ?_ | refine And.intro (.inl (.inl ⟨by omega, by omega⟩)) ?_ | refine And.intro (.inl (.inr ⟨by omega, by omega⟩)) ?_ | refine And.intro ⟨by decide, by decide, by decide⟩ ?_ | refine And.intro (by decide) ?_ | refine And.intro (by omega) ?_ | refine And.intro (by simp only [List.length_cons, List.length_nil]; decide) ?_ | refine And.intro (by simp only [List.length_cons, List.length_nil, List.length_map, List.length_append]; omega) ?_)); (conv => whnf)
          exact ⟨rfl, q r' (by omega)⟩
theorem ok_law {F0 : Addr} {fd : FuncData} (F : Fun K "law" "law" s_law F0 fd) (T : Tp K mg) : FnOk P w K mg base CX0 9 F0 fd ["script"] (spLaw K) := by
  refine law_of (fn_o F sc_law PhiLaw_l fun cdv A outer s H E hr => ⟨_, (dss_cons (ds_set true 1 sc_law.nd (de_callF (at__law_box T) hr m__law_box (da_cons (de_callO (i := 0) (at__law_cells T) hr m__law_cells (da_cons de_int da_nil)) (da_cons de_int da_nil))))
    (dss_box 1000000 1 (dss_cons (ds_for PassesOwn.never rfl (di_range1 T.range (da_cons de_int da_nil)) (dg_n 2 sc_law.nd) (dss_cons (ds_set false 3 sc_law.nd (de_bin de_int (de_callO (i := 1) (at__law_take T) hr m__law_take (da_cons de_int da_nil))))
    (dss_cons (ds_setLc false 4 rfl sc_law.nd (blkOk_by (N := ["script", "box", "lap", "low", "rows", "k"]) (sc := defScope s_law) (own := [("k", 5)]) (by decide +kernel)) (lc_ok (di_range1 T.range (da_cons de_int da_nil)) (fun _ _ _ _ _ => (dg_n 5 sc_law.nd)) (fun _ _ _ _ _ => dp_nil) (fun _ _ _ _ _ => (de_callO (i := 1) (at__law_shown T) hr m__law_shown (da_cons (de_callO (i := 1) (at__law_drawn_row T) hr m__law_drawn_row (da_cons (de_var 3) da_nil)) (da_cons (de_var 3) da_nil))))))
    (dss_one (ds_if (dt_w (dw_or (dt_not (dt_val (de_call (at__law_three_right T) hr m__law_three_right (da_cons (de_var 4) (da_cons (de_var 3) da_nil))))) (dw_or1 (dt_not (dt_val (de_callO (i := 1) (at__law_shape_right T) hr m__law_shape_right (da_cons (de_var 3) da_nil))))))) (dss_one (ds_ret de_bl)) dss_nil)))))
    (dss_one (ds_ret de_bl))))), fun R ds Q h => ?_⟩)
  obtain ⟨a, ns, rfl, hl, rfl, q⟩ := h
  conv => whnf
  refine ⟨a, ns, rfl, hl, rfl, fun cs c0 c1 => ?_⟩
  conv => whnf
  refine ⟨cs, c0, rfl, fun x y => ?_⟩
  conv => whnf
  refine ⟨by decide, fun b => ?_⟩
  (repeat ((conv => whnf); first | refine cnd.yes ?_ | refine cnd.no ?_ | refine cnd.decY (by first | rfl | omega) ?_ | refine cnd.decN (by omega) ?_ | refine cnd.notY (by omega) ?_ | refine cnd.notN (by first | rfl | omega) ?_ | refine cnd.decY (by simp only [List.length_cons, List.length_nil, List.length_map, List.length_append]; omega) ?_ | refine cnd.decN (by simp only [List.length_cons, List.length_nil, List.length_map, List.length_append]; omega) ?_ | refine Exists.intro _ (And.intro atI_zero ?_) | refine Exists.intro _ (And.intro atI_one ?_) | refine Exists.intro _ (And.intro (atI_last _ _) ?_) | refine Exists.intro _ (And.intro (setAt_last _ _ _) ?_) | refine Exists.intro _ (Exists.intro _ (Exists.intro _ (Exists.intro _ (And.intro rfl ?_)))) | refine Exists.intro _ (And.intro rfl ?_) | refine Exists.intro _ (Exists.intro _ (And.intro rfl ?_)) | refine Exists.intro _ (Exists.intro _ (Exists.intro _ (And.intro rfl ?_))) | refine And.intro (cdivW_small (by first | decide | omega) (by first | decide | omega)) ?_ | refine And.intro (.inl (.inl ⟨by omega, by omega⟩)) ?_ | refine And.intro (.inl (.inr ⟨by omega, by omega⟩)) ?_ | refine And.intro ⟨by decide, by decide, by decide⟩ ?_ | refine And.intro (by decide) ?_ | refine And.intro (by omega) ?_ | refine And.intro (by simp only [List.length_cons, List.length_nil]; decide) ?_ | refine And.intro (by simp only [List.length_cons, List.length_nil, List.length_map, List.length_append]; omega) ?_)); (conv => whnf)
  refine forQ.by (rangeL 0 12) PyData.int (fun pre ρ => ∃ (r' : Nat) (s2 s3 s4 s5 : Slot), ρ = [.own (Scr a ns), .own (Box b r'), s2, s3, s4, s5] ∧ 1000000 ≤ r' + 100 * pre.length) ⟨_, _, _, _, _, rfl, Nat.le_refl _⟩ ?_ ?_
  · rintro pre lap ρ2 ⟨post, e⟩ ⟨r', s2, s3, s4, s5, rfl, hr⟩
    have hn : pre.length < 12 := by
      have := congrArg List.length e
      rw [rangeL_length, List.length_append, List.length_cons] at this
      omega
    obtain ⟨r2, rfl⟩ : ∃ r2, r' = r2 + 8 + 11 + 11 + 11 + 1 := ⟨r' - 42, by omega⟩
    (repeat ((conv => whnf); first | refine cnd.yes ?_ | refine cnd.no ?_ | refine cnd.decY (by first | rfl | omega) ?_ | refine cnd.decN (by omega) ?_ | refine cnd.notY (by omega) ?_ | refine cnd.notN (by first | rfl | omega) ?_ | refine cnd.decY (by simp only [List.length_cons, List.length_nil, List.length_map, List.length_append]; omega) ?_ | refine cnd.decN (by simp only [List.length_cons, List.length_nil, List.length_map, List.length_append]; omega) ?_ | refine Exists.intro _ (And.intro atI_zero ?_) | refine Exists.intro _ (And.intro atI_one ?_) | refine Exists.intro _ (And.intro (atI_last _ _) ?_) | refine Exists.intro _ (And.intro (setAt_last _ _ _) ?_) | refine Exists.intro _ (Exists.intro _ (Exists.intro _ (Exists.intro _ (And.intro rfl ?_)))) | refine Exists.intro _ (And.intro rfl ?_) | refine Exists.intro _ (Exists.intro _ (And.intro rfl ?_)) | refine Exists.intro _ (Exists.intro _ (Exists.intro _ (And.intro rfl ?_))) | refine And.intro (cdivW_small (by first | decide | omega) (by first | decide | omega)) ?_ | refine And.intro (.inl (.inl ⟨by omega, by omega⟩)) ?_ | refine And.intro (.inl (.inr ⟨by omega, by omega⟩)) ?_ | refine And.intro ⟨by decide, by decide, by decide⟩ ?_ | refine And.intro (by decide) ?_ | refine And.intro (by omega) ?_ | refine And.intro (by simp only [List.length_cons, List.length_nil]; decide) ?_ | refine And.intro (by simp only [List.length_cons, List.length_nil, List.length_map, List.length_append]; omega) ?_)); (conv => whnf)
    refine ⟨b, r2 + 8 + 11 + 11 + 11, 4, rfl, rfl, by decide, by decide, fun k k0 k1 => ?_⟩
    generalize hL : 1 + k = L
    have hL1 : 1 ≤ L := by omega
    have hL4 : L ≤ 4 := by omega
    conv => whnf
    rw [hL]
    refine ⟨⟨by decide, by decide⟩, ?_⟩
    refine ⟨by rw [rangeL_len]; decide, fun i acc ρ => ∃ (r' : Nat) (rs : List (List Int)), ρ = [.own (Scr a ns), .own (Box b r'), .pub (.int lap), .pub (.int L), s4, .no] ∧ acc = rs.map encI ∧ rs.length = i ∧ (∀ r, r ∈ rs → rowOk 1 r) ∧ r2 + 8 + 33 ≤ r' + 11 * i, ⟨r2 + 8 + 11 + 11 + 11, [], rfl, rfl, rfl, (fun r hr => by cases hr), by omega⟩, ?_, ?_⟩
    · rintro i acc d ρ3 hd ⟨r', rs, rfl, rfl, hi, hrs, hr2⟩
      have hi3 : i < 3 := by
        have := (List.getElem?_eq_some_iff.mp hd).1
        rw [rangeL_len] at this
        exact this
      obtain ⟨r3, rfl⟩ : ∃ r3, r' = r3 + 1 + 10 := ⟨r' - 11, by omega⟩
      (repeat ((conv => whnf); first | refine cnd.yes ?_ | refine cnd.no ?_ | refine cnd.decY (by first | rfl | omega) ?_ | refine cnd.decN (by omega) ?_ | refine cnd.notY (by omega) ?_ | refine cnd.notN (by first | rfl | omega) ?_ | refine cnd.decY (by simp only [List.length_cons, List.length_nil, List.length_map, List.length_append]; omega) ?_ | refine cnd.decN (by simp only [List.length_cons, List.length_nil, List.length_map, List.length_append]; omega) ?_ | refine Exists.intro _ (And.intro atI_zero ?_) | refine Exists.intro _ (And.intro atI_one ?_) | refine Exists.intro _ (And.intro (atI_last _ _) ?_) | refine Exists.intro _ (And.intro (setAt_last _ _ _) ?_) | refine Exists.intro _ (Exists.intro _ (Exists.intro _ (Exists.intro _ (And.intro rfl ?_)))) | refine Exists.intro _ (And.intro rfl ?_) | refine Exists.intro _ (Exists.intro _ (And.intro rfl ?_)) | refine Exists.intro _ (Exists.intro _ (Exists.intro _ (And.intro rfl ?_))) | refine And.intro (cdivW_small (by first | decide | omega) (by first | decide | omega)) ?_ | refine And.intro (.inl (.inl ⟨by omega, by omega⟩)) ?_ | refine And.intro (.inl (.inr ⟨by omega, by omega⟩)) ?_ | refine And.intro ⟨by decide, by decide, by decide⟩ ?_ | refine And.intro (by decide) ?_ | refine And.intro (by omega) ?_ | refine And.intro (by simp only [List.length_cons, List.length_nil]; decide) ?_ | refine And.intro (by simp only [List.length_cons, List.length_nil, List.length_map, List.length_append]; omega) ?_)); (conv => whnf)
      refine ⟨b, r3 + 1, L, rfl, rfl, hL1, hL4, fun row r4 h4 hl4 hrow => ?_⟩
      obtain ⟨r5, rfl⟩ : ∃ r5, r4 = r5 + 1 := ⟨r4 - 1, by omega⟩
      (repeat ((conv => whnf); first | refine cnd.yes ?_ | refine cnd.no ?_ | refine cnd.decY (by first | rfl | omega) ?_ | refine cnd.decN (by omega) ?_ | refine cnd.notY (by omega) ?_ | refine cnd.notN (by first | rfl | omega) ?_ | refine cnd.decY (by simp only [List.length_cons, List.length_nil, List.length_map, List.length_append]; omega) ?_ | refine cnd.decN (by simp only [List.length_cons, List.length_nil, List.length_map, List.length_append]; omega) ?_ | refine Exists.intro _ (And.intro atI_zero ?_) | refine Exists.intro _ (And.intro atI_one ?_) | refine Exists.intro _ (And.intro (atI_last _ _) ?_) | refine Exists.intro _ (And.intro (setAt_last _ _ _) ?_) | refine Exists.intro _ (Exists.intro _ (Exists.intro _ (Exists.intro _ (And.intro rfl ?_)))) | refine Exists.intro _ (And.intro rfl ?_) | refine Exists.intro _ (Exists.intro _ (And.intro rfl ?_)) | refine Exists.intro _ (Exists.intro _ (Exists.intro _ (And.intro rfl ?_))) | refine And.intro (cdivW_small (by first | decide | omega) (by first | decide | omega)) ?_ | refine And.intro (.inl (.inl ⟨by omega, by omega⟩)) ?_ | refine And.intro (.inl (.inr ⟨by omega, by omega⟩)) ?_ | refine And.intro ⟨by decide, by decide, by decide⟩ ?_ | refine And.intro (by decide) ?_ | refine And.intro (by omega) ?_ | refine And.intro (by simp only [List.length_cons, List.length_nil]; decide) ?_ | refine And.intro (by simp only [List.length_cons, List.length_nil, List.length_map, List.length_append]; omega) ?_)); (conv => whnf)
      refine ⟨b, r5, L, row, rfl, rfl, hL1, hL4, hl4, hrow, fun row' hok => ?_⟩
      (repeat ((conv => whnf); first | refine cnd.yes ?_ | refine cnd.no ?_ | refine cnd.decY (by first | rfl | omega) ?_ | refine cnd.decN (by omega) ?_ | refine cnd.notY (by omega) ?_ | refine cnd.notN (by first | rfl | omega) ?_ | refine cnd.decY (by simp only [List.length_cons, List.length_nil, List.length_map, List.length_append]; omega) ?_ | refine cnd.decN (by simp only [List.length_cons, List.length_nil, List.length_map, List.length_append]; omega) ?_ | refine Exists.intro _ (And.intro atI_zero ?_) | refine Exists.intro _ (And.intro atI_one ?_) | refine Exists.intro _ (And.intro (atI_last _ _) ?_) | refine Exists.intro _ (And.intro (setAt_last _ _ _) ?_) | refine Exists.intro _ (Exists.intro _ (Exists.intro _ (Exists.intro _ (And.intro rfl ?_)))) | refine Exists.intro _ (And.intro rfl ?_) | refine Exists.intro _ (Exists.intro _ (And.intro rfl ?_)) | refine Exists.intro _ (Exists.intro _ (Exists.intro _ (And.intro rfl ?_))) | refine And.intro (cdivW_small (by first | decide | omega) (by first | decide | omega)) ?_ | refine And.intro (.inl (.inl ⟨by omega, by omega⟩)) ?_ | refine And.intro (.inl (.inr ⟨by omega, by omega⟩)) ?_ | refine And.intro ⟨by decide, by decide, by decide⟩ ?_ | refine And.intro (by decide) ?_ | refine And.intro (by omega) ?_ | refine And.intro (by simp only [List.length_cons, List.length_nil]; decide) ?_ | refine And.intro (by simp only [List.length_cons, List.length_nil, List.length_map, List.length_append]; omega) ?_)); (conv => whnf)
      refine ⟨r5, rs ++ [row'], rfl, by rw [List.map_append]; rfl, by rw [List.length_append]; simp; omega, fun r hr => ?_, by omega⟩
      rw [List.mem_append, List.mem_singleton] at hr
      rcases hr with hr | rfl
      · exact hrs r hr
      · exact hok
    · rintro acc ρ3 _ ⟨r', rs, rfl, rfl, hi, hrs, hr2⟩
      have hi : rs.length = 3 := hi
      have hr2 : r2 + 8 + 33 ≤ r' + 11 * 3 := hr2
      obtain ⟨q1, q2, q3, rfl⟩ : ∃ q1 q2 q3, rs = [q1, q2, q3] := by
        match rs, hi with
        | [q1, q2, q3], _ => exact ⟨q1, q2, q3, rfl⟩
      have ok1 := hrs q1 (by simp)
      have ok2 := hrs q2 (by simp)
      have ok3 := hrs q3 (by simp)
      obtain ⟨r3, rfl⟩ : ∃ r3, r' = r3 + 8 := ⟨r' - 8, by omega⟩
      conv => whnf
      refine ⟨q1, q2, q3, L, rfl, hL1, hL4, ok1, ok2, ok3, ?_⟩
      (repeat ((conv => whnf); first | refine cnd.yes ?_ | refine cnd.no ?_ | refine cnd.decY (by first | rfl | omega) ?_ | refine cnd.decN (by omega) ?_ | refine cnd.notY (by omega) ?_ | refine cnd.notN (by first | rfl | omega) ?_ | refine cnd.decY (by simp only [List.length_cons, List.length_nil, List.length_map, List.length_append]; omega) ?_ | refine cnd.decN (by simp only [List.length_cons, List.length_nil, List.length_map, List.length_append]; omega) ?_ | refine Exists.intro _ (And.intro atI_zero ?_) | refine Exists.intro _ (And.intro atI_one ?_) | refine Exists.intro _ (And.intro (atI_last _ _) ?_) | refine Exists.intro _ (And.intro (setAt_last _ _ _) ?_) | refine Exists.intro _ (Exists.intro _ (Exists.intro _ (Exists.intro _ (And.intro rfl ?_)))) | refine Exists.intro _ (And.intro rfl ?_) | refine Exists.intro _ (Exists.intro _ (And.intro rfl ?_)) | refine Exists.intro _ (Exists.intro _ (Exists.intro _ (And.intro rfl ?_))) | refine And.intro (cdivW_small (by first | decide | omega) (by first | decide | omega)) ?_ | refine And.intro (.inl (.inl ⟨by omega, by omega⟩)) ?_ | refine And.intro (.inl (.inr ⟨by omega, by omega⟩)) ?_ | refine And.intro ⟨by decide, by decide, by decide⟩ ?_ | refine And.intro (by decide) ?_ | refine And.intro (by omega) ?_ | refine And.intro (by simp only [List.length_cons, List.length_nil]; decide) ?_ | refine And.intro (by simp only [List.length_cons, List.length_nil, List.length_map, List.length_append]; omega) ?_)); (conv => whnf)
      refine ⟨b, r3, L, rfl, rfl, hL1, hL4, fun r4 h4 => ?_⟩
      (repeat ((conv => whnf); first | refine cnd.yes ?_ | refine cnd.no ?_ | refine cnd.decY (by first | rfl | omega) ?_ | refine cnd.decN (by omega) ?_ | refine cnd.notY (by omega) ?_ | refine cnd.notN (by first | rfl | omega) ?_ | refine cnd.decY (by simp only [List.length_cons, List.length_nil, List.length_map, List.length_append]; omega) ?_ | refine cnd.decN (by simp only [List.length_cons, List.length_nil, List.length_map, List.length_append]; omega) ?_ | refine Exists.intro _ (And.intro atI_zero ?_) | refine Exists.intro _ (And.intro atI_one ?_) | refine Exists.intro _ (And.intro (atI_last _ _) ?_) | refine Exists.intro _ (And.intro (setAt_last _ _ _) ?_) | refine Exists.intro _ (Exists.intro _ (Exists.intro _ (Exists.intro _ (And.intro rfl ?_)))) | refine Exists.intro _ (And.intro rfl ?_) | refine Exists.intro _ (Exists.intro _ (And.intro rfl ?_)) | refine Exists.intro _ (Exists.intro _ (Exists.intro _ (And.intro rfl ?_))) | refine And.intro (cdivW_small (by first | decide | omega) (by first | decide | omega)) ?_ | refine And.intro (.inl (.inl ⟨by omega, by omega⟩)) ?_ | refine And.intro (.inl (.inr ⟨by omega, by omega⟩)) ?_ | refine And.intro ⟨by decide, by decide, by decide⟩ ?_ | refine And.intro (by decide) ?_ | refine And.intro (by omega) ?_ | refine And.intro (by simp only [List.length_cons, List.length_nil]; decide) ?_ | refine And.intro (by simp only [List.length_cons, List.length_nil, List.length_map, List.length_append]; omega) ?_)); (conv => whnf)
      exact ⟨r4, _, _, _, _, rfl, by rw [List.length_append, List.length_singleton]; omega⟩
  · rintro ρ2 ⟨r', s2, s3, s4, s5, rfl, hr⟩
    (repeat ((conv => whnf); first | refine cnd.yes ?_ | refine cnd.no ?_ | refine cnd.decY (by first | rfl | omega) ?_ | refine cnd.decN (by omega) ?_ | refine cnd.notY (by omega) ?_ | refine cnd.notN (by first | rfl | omega) ?_ | refine cnd.decY (by simp only [List.length_cons, List.length_nil, List.length_map, List.length_append]; omega) ?_ | refine cnd.decN (by simp only [List.length_cons, List.length_nil, List.length_map, List.length_append]; omega) ?_ | refine Exists.intro _ (And.intro atI_zero ?_) | refine Exists.intro _ (And.intro atI_one ?_) | refine Exists.intro _ (And.intro (atI_last _ _) ?_) | refine Exists.intro _ (And.intro (setAt_last _ _ _) ?_) | refine Exists.intro _ (Exists.intro _ (Exists.intro _ (Exists.intro _ (And.intro rfl ?_)))) | refine Exists.intro _ (And.intro rfl ?_) | refine Exists.intro _ (Exists.intro _ (And.intro rfl ?_)) | refine Exists.intro _ (Exists.intro _ (Exists.intro _ (And.intro rfl ?_))) | refine And.intro (cdivW_small (by first | decide | omega) (by first | decide | omega)) ?_ | refine And.intro (.inl (.inl ⟨by omega, by omega⟩)) ?_ | refine And.intro (.inl (.inr ⟨by omega, by omega⟩)) ?_ | refine And.intro ⟨by decide, by decide, by decide⟩ ?_ | refine And.intro (by decide) ?_ | refine And.intro (by omega) ?_ | refine And.intro (by simp only [List.length_cons, List.length_nil]; decide) ?_ | refine And.intro (by simp only [List.length_cons, List.length_nil, List.length_map, List.length_append]; omega) ?_)); (conv => whnf)
    exact ⟨rfl, q⟩

end
theorem all_mk {l : PySem.W.OpenLaw} {w : World} {K : PySem.W.Frag} {h : Heap} {mg : Str → Option Value} {fa f0 f1 f2 f3 f4 f5 f6 f7 f8 f9 f10 f11 f12 f13 f14 f15 f16 f17 f18 f19 f20 f21 f22 f23 f24 f25 f26 f27 : Addr} (X : K.In h) (G : h.Ns mainGlobals mg) (hfa : mg "law" = some (.ref fa))
    {od0 an0 : Option Addr} {sl0 : Array (Option Value)} {oc0 kV0 dc0 pm0 cd0 ct0 : Value}
    (a0 : PySem.W.nsIn K mainGlobals "tupled" = some (some (.ref f0))) (l0 : K.lookup f0 = some ⟨oc0, od0, .func (PySem.W.fnOf "tupled" "tupled" (defArgs s_tupled) (defBody s_tupled) (defScope s_tupled) .none kV0 dc0 pm0 an0 cd0 ct0), sl0⟩) (c0 : PySem.W.codeIn K cd0 "tupled" = true) (k0 : PySem.W.keepIn K (.ref f0) = true)
    {od1 an1 : Option Addr} {sl1 : Array (Option Value)} {oc1 kV1 dc1 pm1 cd1 ct1 : Value}
    (a1 : PySem.W.nsIn K mainGlobals "is_number" = some (some (.ref f1))) (l1 : K.lookup f1 = some ⟨oc1, od1, .func (PySem.W.fnOf "is_number" "is_number" (defArgs s_is_number) (defBody s_is_number) (defScope s_is_number) .none kV1 dc1 pm1 an1 cd1 ct1), sl1⟩) (c1 : PySem.W.codeIn K cd1 "is_number" = true) (k1 : PySem.W.keepIn K (.ref f1) = true)
    {od2 an2 : Option Addr} {sl2 : Array (Option Value)} {oc2 kV2 dc2 pm2 cd2 ct2 : Value}
    (a2 : PySem.W.nsIn K mainGlobals "is_tuple" = some (some (.ref f2))) (l2 : K.lookup f2 = some ⟨oc2, od2, .func (PySem.W.fnOf "is_tuple" "is_tuple" (defArgs s_is_tuple) (defBody s_is_tuple) (defScope s_is_tuple) .none kV2 dc2 pm2 an2 cd2 ct2), sl2⟩) (c2 : PySem.W.codeIn K cd2 "is_tuple" = true) (k2 : PySem.W.keepIn K (.ref f2) = true)
    {od3 an3 : Option Addr} {sl3 : Array (Option Value)} {oc3 kV3 dc3 pm3 cd3 ct3 : Value}
    (a3 : PySem.W.nsIn K mainGlobals "records" = some (some (.ref f3))) (l3 : K.lookup f3 = some ⟨oc3, od3, .func (PySem.W.fnOf "records" "records" (defArgs s_records) (defBody s_records) (defScope s_records) .none kV3 dc3 pm3 an3 cd3 ct3), sl3⟩) (c3 : PySem.W.codeIn K cd3 "records" = true) (k3 : PySem.W.keepIn K (.ref f3) = true)
    {od4 an4 : Option Addr} {sl4 : Array (Option Value)} {oc4 kV4 dc4 pm4 cd4 ct4 : Value}
    (a4 : PySem.W.nsIn K mainGlobals "is_lone" = some (some (.ref f4))) (l4 : K.lookup f4 = some ⟨oc4, od4, .func (PySem.W.fnOf "is_lone" "is_lone" (defArgs s_is_lone) (defBody s_is_lone) (defScope s_is_lone) .none kV4 dc4 pm4 an4 cd4 ct4), sl4⟩) (c4 : PySem.W.codeIn K cd4 "is_lone" = true) (k4 : PySem.W.keepIn K (.ref f4) = true)
    {od5 an5 : Option Addr} {sl5 : Array (Option Value)} {oc5 kV5 dc5 pm5 cd5 ct5 : Value}
    (a5 : PySem.W.nsIn K mainGlobals "joined_blocks" = some (some (.ref f5))) (l5 : K.lookup f5 = some ⟨oc5, od5, .func (PySem.W.fnOf "joined_blocks" "joined_blocks" (defArgs s_joined_blocks) (defBody s_joined_blocks) (defScope s_joined_blocks) .none kV5 dc5 pm5 an5 cd5 ct5), sl5⟩) (c5 : PySem.W.codeIn K cd5 "joined_blocks" = true) (k5 : PySem.W.keepIn K (.ref f5) = true)
    {od6 an6 : Option Addr} {sl6 : Array (Option Value)} {oc6 kV6 dc6 pm6 cd6 ct6 : Value}
    (a6 : PySem.W.nsIn K mainGlobals "filling" = some (some (.ref f6))) (l6 : K.lookup f6 = some ⟨oc6, od6, .func (PySem.W.fnOf "filling" "filling" (defArgs s_filling) (defBody s_filling) (defScope s_filling) .none kV6 dc6 pm6 an6 cd6 ct6), sl6⟩) (c6 : PySem.W.codeIn K cd6 "filling" = true) (k6 : PySem.W.keepIn K (.ref f6) = true)
    {od7 an7 : Option Addr} {sl7 : Array (Option Value)} {oc7 kV7 dc7 pm7 cd7 ct7 : Value}
    (a7 : PySem.W.nsIn K mainGlobals "is_block" = some (some (.ref f7))) (l7 : K.lookup f7 = some ⟨oc7, od7, .func (PySem.W.fnOf "is_block" "is_block" (defArgs s_is_block) (defBody s_is_block) (defScope s_is_block) .none kV7 dc7 pm7 an7 cd7 ct7), sl7⟩) (c7 : PySem.W.codeIn K cd7 "is_block" = true) (k7 : PySem.W.keepIn K (.ref f7) = true)
    {od8 an8 : Option Addr} {sl8 : Array (Option Value)} {oc8 kV8 dc8 pm8 cd8 ct8 : Value}
    (a8 : PySem.W.nsIn K mainGlobals "is_filling" = some (some (.ref f8))) (l8 : K.lookup f8 = some ⟨oc8, od8, .func (PySem.W.fnOf "is_filling" "is_filling" (defArgs s_is_filling) (defBody s_is_filling) (defScope s_is_filling) .none kV8 dc8 pm8 an8 cd8 ct8), sl8⟩) (c8 : PySem.W.codeIn K cd8 "is_filling" = true) (k8 : PySem.W.keepIn K (.ref f8) = true)
    {od9 an9 : Option Addr} {sl9 : Array (Option Value)} {oc9 kV9 dc9 pm9 cd9 ct9 : Value}
    (a9 : PySem.W.nsIn K mainGlobals "blocks_of" = some (some (.ref f9))) (l9 : K.lookup f9 = some ⟨oc9, od9, .func (PySem.W.fnOf "blocks_of" "blocks_of" (defArgs s_blocks_of) (defBody s_blocks_of) (defScope s_blocks_of) .none kV9 dc9 pm9 an9 cd9 ct9), sl9⟩) (c9 : PySem.W.codeIn K cd9 "blocks_of" = true) (k9 : PySem.W.keepIn K (.ref f9) = true)
    {od10 an10 : Option Addr} {sl10 : Array (Option Value)} {oc10 kV10 dc10 pm10 cd10 ct10 : Value}
    (a10 : PySem.W.nsIn K mainGlobals "many_numbers" = some (some (.ref f10))) (l10 : K.lookup f10 = some ⟨oc10, od10, .func (PySem.W.fnOf "many_numbers" "many_numbers" (defArgs s_many_numbers) (defBody s_many_numbers) (defScope s_many_numbers) .none kV10 dc10 pm10 an10 cd10 ct10), sl10⟩) (c10 : PySem.W.codeIn K cd10 "many_numbers" = true) (k10 : PySem.W.keepIn K (.ref f10) = true)
    {od11 an11 : Option Addr} {sl11 : Array (Option Value)} {oc11 kV11 dc11 pm11 cd11 ct11 : Value}
    (a11 : PySem.W.nsIn K mainGlobals "behind" = some (some (.ref f11))) (l11 : K.lookup f11 = some ⟨oc11, od11, .func (PySem.W.fnOf "behind" "behind" (defArgs s_behind) (defBody s_behind) (defScope s_behind) .none kV11 dc11 pm11 an11 cd11 ct11), sl11⟩) (c11 : PySem.W.codeIn K cd11 "behind" = true) (k11 : PySem.W.keepIn K (.ref f11) = true)
    {od12 an12 : Option Addr} {sl12 : Array (Option Value)} {oc12 kV12 dc12 pm12 cd12 ct12 : Value}
    (a12 : PySem.W.nsIn K mainGlobals "_law_box" = some (some (.ref f12))) (l12 : K.lookup f12 = some ⟨oc12, od12, .func (PySem.W.fnOf "_law_box" "_law_box" (defArgs s__law_box) (defBody s__law_box) (defScope s__law_box) .none kV12 dc12 pm12 an12 cd12 ct12), sl12⟩) (c12 : PySem.W.codeIn K cd12 "_law_box" = true) (k12 : PySem.W.keepIn K (.ref f12) = true)
    {od13 an13 : Option Addr} {sl13 : Array (Option Value)} {oc13 kV13 dc13 pm13 cd13 ct13 : Value}
    (a13 : PySem.W.nsIn K mainGlobals "_law_take" = some (some (.ref f13))) (l13 : K.lookup f13 = some ⟨oc13, od13, .func (PySem.W.fnOf "_law_take" "_law_take" (defArgs s__law_take) (defBody s__law_take) (defScope s__law_take) .none kV13 dc13 pm13 an13 cd13 ct13), sl13⟩) (c13 : PySem.W.codeIn K cd13 "_law_take" = true) (k13 : PySem.W.keepIn K (.ref f13) = true)
    {od14 an14 : Option Addr} {sl14 : Array (Option Value)} {oc14 kV14 dc14 pm14 cd14 ct14 : Value}
    (a14 : PySem.W.nsIn K mainGlobals "_law_cells" = some (some (.ref f14))) (l14 : K.lookup f14 = some ⟨oc14, od14, .func (PySem.W.fnOf "_law_cells" "_law_cells" (defArgs s__law_cells) (defBody s__law_cells) (defScope s__law_cells) .none kV14 dc14 pm14 an14 cd14 ct14), sl14⟩) (c14 : PySem.W.codeIn K cd14 "_law_cells" = true) (k14 : PySem.W.keepIn K (.ref f14) = true)
    {od15 an15 : Option Addr} {sl15 : Array (Option Value)} {oc15 kV15 dc15 pm15 cd15 ct15 : Value}
    (a15 : PySem.W.nsIn K mainGlobals "_law_of" = some (some (.ref f15))) (l15 : K.lookup f15 = some ⟨oc15, od15, .func (PySem.W.fnOf "_law_of" "_law_of" (defArgs s__law_of) (defBody s__law_of) (defScope s__law_of) .none kV15 dc15 pm15 an15 cd15 ct15), sl15⟩) (c15 : PySem.W.codeIn K cd15 "_law_of" = true) (k15 : PySem.W.keepIn K (.ref f15) = true)
    {od16 an16 : Option Addr} {sl16 : Array (Option Value)} {oc16 kV16 dc16 pm16 cd16 ct16 : Value}
    (a16 : PySem.W.nsIn K mainGlobals "_law_same" = some (some (.ref f16))) (l16 : K.lookup f16 = some ⟨oc16, od16, .func (PySem.W.fnOf "_law_same" "_law_same" (defArgs s__law_same) (defBody s__law_same) (defScope s__law_same) .none kV16 dc16 pm16 an16 cd16 ct16), sl16⟩) (c16 : PySem.W.codeIn K cd16 "_law_same" = true) (k16 : PySem.W.keepIn K (.ref f16) = true)
    {od17 an17 : Option Addr} {sl17 : Array (Option Value)} {oc17 kV17 dc17 pm17 cd17 ct17 : Value}
    (a17 : PySem.W.nsIn K mainGlobals "_law_blocks" = some (some (.ref f17))) (l17 : K.lookup f17 = some ⟨oc17, od17, .func (PySem.W.fnOf "_law_blocks" "_law_blocks" (defArgs s__law_blocks) (defBody s__law_blocks) (defScope s__law_blocks) .none kV17 dc17 pm17 an17 cd17 ct17), sl17⟩) (c17 : PySem.W.codeIn K cd17 "_law_blocks" = true) (k17 : PySem.W.keepIn K (.ref f17) = true)
    {od18 an18 : Option Addr} {sl18 : Array (Option Value)} {oc18 kV18 dc18 pm18 cd18 ct18 : Value}
    (a18 : PySem.W.nsIn K mainGlobals "_law_tops" = some (some (.ref f18))) (l18 : K.lookup f18 = some ⟨oc18, od18, .func (PySem.W.fnOf "_law_tops" "_law_tops" (defArgs s__law_tops) (defBody s__law_tops) (defScope s__law_tops) .none kV18 dc18 pm18 an18 cd18 ct18), sl18⟩) (c18 : PySem.W.codeIn K cd18 "_law_tops" = true) (k18 : PySem.W.keepIn K (.ref f18) = true)
    {od19 an19 : Option Addr} {sl19 : Array (Option Value)} {oc19 kV19 dc19 pm19 cd19 ct19 : Value}
    (a19 : PySem.W.nsIn K mainGlobals "_law_lies" = some (some (.ref f19))) (l19 : K.lookup f19 = some ⟨oc19, od19, .func (PySem.W.fnOf "_law_lies" "_law_lies" (defArgs s__law_lies) (defBody s__law_lies) (defScope s__law_lies) .none kV19 dc19 pm19 an19 cd19 ct19), sl19⟩) (c19 : PySem.W.codeIn K cd19 "_law_lies" = true) (k19 : PySem.W.keepIn K (.ref f19) = true)
    {od20 an20 : Option Addr} {sl20 : Array (Option Value)} {oc20 kV20 dc20 pm20 cd20 ct20 : Value}
    (a20 : PySem.W.nsIn K mainGlobals "_law_drawn_row" = some (some (.ref f20))) (l20 : K.lookup f20 = some ⟨oc20, od20, .func (PySem.W.fnOf "_law_drawn_row" "_law_drawn_row" (defArgs s__law_drawn_row) (defBody s__law_drawn_row) (defScope s__law_drawn_row) .none kV20 dc20 pm20 an20 cd20 ct20), sl20⟩) (c20 : PySem.W.codeIn K cd20 "_law_drawn_row" = true) (k20 : PySem.W.keepIn K (.ref f20) = true)
    {od21 an21 : Option Addr} {sl21 : Array (Option Value)} {oc21 kV21 dc21 pm21 cd21 ct21 : Value}
    (a21 : PySem.W.nsIn K mainGlobals "_law_shown" = some (some (.ref f21))) (l21 : K.lookup f21 = some ⟨oc21, od21, .func (PySem.W.fnOf "_law_shown" "_law_shown" (defArgs s__law_shown) (defBody s__law_shown) (defScope s__law_shown) .none kV21 dc21 pm21 an21 cd21 ct21), sl21⟩) (c21 : PySem.W.codeIn K cd21 "_law_shown" = true) (k21 : PySem.W.keepIn K (.ref f21) = true)
    {od22 an22 : Option Addr} {sl22 : Array (Option Value)} {oc22 kV22 dc22 pm22 cd22 ct22 : Value}
    (a22 : PySem.W.nsIn K mainGlobals "_law_set_of" = some (some (.ref f22))) (l22 : K.lookup f22 = some ⟨oc22, od22, .func (PySem.W.fnOf "_law_set_of" "_law_set_of" (defArgs s__law_set_of) (defBody s__law_set_of) (defScope s__law_set_of) .none kV22 dc22 pm22 an22 cd22 ct22), sl22⟩) (c22 : PySem.W.codeIn K cd22 "_law_set_of" = true) (k22 : PySem.W.keepIn K (.ref f22) = true)
    {od23 an23 : Option Addr} {sl23 : Array (Option Value)} {oc23 kV23 dc23 pm23 cd23 ct23 : Value}
    (a23 : PySem.W.nsIn K mainGlobals "_law_blocks_of" = some (some (.ref f23))) (l23 : K.lookup f23 = some ⟨oc23, od23, .func (PySem.W.fnOf "_law_blocks_of" "_law_blocks_of" (defArgs s__law_blocks_of) (defBody s__law_blocks_of) (defScope s__law_blocks_of) .none kV23 dc23 pm23 an23 cd23 ct23), sl23⟩) (c23 : PySem.W.codeIn K cd23 "_law_blocks_of" = true) (k23 : PySem.W.keepIn K (.ref f23) = true)
    {od24 an24 : Option Addr} {sl24 : Array (Option Value)} {oc24 kV24 dc24 pm24 cd24 ct24 : Value}
    (a24 : PySem.W.nsIn K mainGlobals "_law_behind_of" = some (some (.ref f24))) (l24 : K.lookup f24 = some ⟨oc24, od24, .func (PySem.W.fnOf "_law_behind_of" "_law_behind_of" (defArgs s__law_behind_of) (defBody s__law_behind_of) (defScope s__law_behind_of) .none kV24 dc24 pm24 an24 cd24 ct24), sl24⟩) (c24 : PySem.W.codeIn K cd24 "_law_behind_of" = true) (k24 : PySem.W.keepIn K (.ref f24) = true)
    {od25 an25 : Option Addr} {sl25 : Array (Option Value)} {oc25 kV25 dc25 pm25 cd25 ct25 : Value}
    (a25 : PySem.W.nsIn K mainGlobals "_law_three_right" = some (some (.ref f25))) (l25 : K.lookup f25 = some ⟨oc25, od25, .func (PySem.W.fnOf "_law_three_right" "_law_three_right" (defArgs s__law_three_right) (defBody s__law_three_right) (defScope s__law_three_right) .none kV25 dc25 pm25 an25 cd25 ct25), sl25⟩) (c25 : PySem.W.codeIn K cd25 "_law_three_right" = true) (k25 : PySem.W.keepIn K (.ref f25) = true)
    {od26 an26 : Option Addr} {sl26 : Array (Option Value)} {oc26 kV26 dc26 pm26 cd26 ct26 : Value}
    (a26 : PySem.W.nsIn K mainGlobals "_law_shape_right" = some (some (.ref f26))) (l26 : K.lookup f26 = some ⟨oc26, od26, .func (PySem.W.fnOf "_law_shape_right" "_law_shape_right" (defArgs s__law_shape_right) (defBody s__law_shape_right) (defScope s__law_shape_right) .none kV26 dc26 pm26 an26 cd26 ct26), sl26⟩) (c26 : PySem.W.codeIn K cd26 "_law_shape_right" = true) (k26 : PySem.W.keepIn K (.ref f26) = true)
    {od27 an27 : Option Addr} {sl27 : Array (Option Value)} {oc27 kV27 dc27 pm27 cd27 ct27 : Value}
    (a27 : PySem.W.nsIn K mainGlobals "law" = some (some (.ref f27))) (l27 : K.lookup f27 = some ⟨oc27, od27, .func (PySem.W.fnOf "law" "law" (defArgs s_law) (defBody s_law) (defScope s_law) .none kV27 dc27 pm27 an27 cd27 ct27), sl27⟩) (c27 : PySem.W.codeIn K cd27 "law" = true) (k27 : PySem.W.keepIn K (.ref f27) = true)
    (z_len : PySem.W.nsIn K mainGlobals "len" = some none)
    (z_abs : PySem.W.nsIn K mainGlobals "abs" = some none)
    (z_int : PySem.W.nsIn K mainGlobals "int" = some none)
    (z_list : PySem.W.nsIn K mainGlobals "list" = some none)
    (z_tuple : PySem.W.nsIn K mainGlobals "tuple" = some none)
    (z_any : PySem.W.nsIn K mainGlobals "any" = some none)
    (z_all : PySem.W.nsIn K mainGlobals "all" = some none)
    (z_sum : PySem.W.nsIn K mainGlobals "sum" = some none)
    (z_sorted : PySem.W.nsIn K mainGlobals "sorted" = some none)
    (z_min : PySem.W.nsIn K mainGlobals "min" = some none)
    (z_range : PySem.W.nsIn K mainGlobals "range" = some none)
    (z_zip : PySem.W.nsIn K mainGlobals "zip" = some none)
    (z_enumerate : PySem.W.nsIn K mainGlobals "enumerate" = some none)
    (z_isinstance : PySem.W.nsIn K mainGlobals "isinstance" = some none)
    (z_set : PySem.W.nsIn K mainGlobals "set" = some none)
    (z_bool : PySem.W.nsIn K mainGlobals "bool" = some none)
    (z_str : PySem.W.nsIn K mainGlobals "str" = some none)
    : ∃ fd : FuncData, (∀ (s : Shared) (v : Value), BindsTo s fd ⟨[v], []⟩ [("script", v)]) ∧ ∀ base : Heap, K.In base → base.Ns mainGlobals mg → FnOk l.prog w K mg base CX0 9 fa fd ["script"] (spLaw K) := by
  have e := hfa.symm.trans (PySem.W.mg_of X G a27)
  cases e
  have T : Tp K mg := {
    len := PySem.W.mg_none_of X G z_len
    abs := PySem.W.mg_none_of X G z_abs
    int := PySem.W.mg_none_of X G z_int
    list := PySem.W.mg_none_of X G z_list
    tuple := PySem.W.mg_none_of X G z_tuple
    any := PySem.W.mg_none_of X G z_any
    all := PySem.W.mg_none_of X G z_all
    sum := PySem.W.mg_none_of X G z_sum
    sorted := PySem.W.mg_none_of X G z_sorted
    min := PySem.W.mg_none_of X G z_min
    range := PySem.W.mg_none_of X G z_range
    zip := PySem.W.mg_none_of X G z_zip
    enumerate := PySem.W.mg_none_of X G z_enumerate
    isinstance := PySem.W.mg_none_of X G z_isinstance
    set := PySem.W.mg_none_of X G z_set
    bool := PySem.W.mg_none_of X G z_bool
    str := PySem.W.mg_none_of X G z_str
    d_tupled := defAt_mk (fun_mk (st := s_tupled) l0 c0 k0) (PySem.W.mg_of X G a0) (fun _ _ _ _ _ _ us hl => match us, hl with | [_], _ => rfl)
    d_is_number := defAt_mk (fun_mk (st := s_is_number) l1 c1 k1) (PySem.W.mg_of X G a1) (fun _ _ _ _ _ _ us hl => match us, hl with | [_, _], _ => rfl)
    d_is_tuple := defAt_mk (fun_mk (st := s_is_tuple) l2 c2 k2) (PySem.W.mg_of X G a2) (fun _ _ _ _ _ _ us hl => match us, hl with | [_, _], _ => rfl)
    d_records := defAt_mk (fun_mk (st := s_records) l3 c3 k3) (PySem.W.mg_of X G a3) (fun _ _ _ _ _ _ us hl => match us, hl with | [_], _ => rfl)
    d_is_lone := defAt_mk (fun_mk (st := s_is_lone) l4 c4 k4) (PySem.W.mg_of X G a4) (fun _ _ _ _ _ _ us hl => match us, hl with | [_, _], _ => rfl)
    d_joined_blocks := defAt_mk (fun_mk (st := s_joined_blocks) l5 c5 k5) (PySem.W.mg_of X G a5) (fun _ _ _ _ _ _ us hl => match us, hl with | [_, _], _ => rfl)
    d_filling := defAt_mk (fun_mk (st := s_filling) l6 c6 k6) (PySem.W.mg_of X G a6) (fun _ _ _ _ _ _ us hl => match us, hl with | [_, _], _ => rfl)
    d_is_block := defAt_mk (fun_mk (st := s_is_block) l7 c7 k7) (PySem.W.mg_of X G a7) (fun _ _ _ _ _ _ us hl => match us, hl with | [_], _ => rfl)
    d_is_filling := defAt_mk (fun_mk (st := s_is_filling) l8 c8 k8) (PySem.W.mg_of X G a8) (fun _ _ _ _ _ _ us hl => match us, hl with | [_, _], _ => rfl)
    d_blocks_of := defAt_mk (fun_mk (st := s_blocks_of) l9 c9 k9) (PySem.W.mg_of X G a9) (fun _ _ _ _ _ _ us hl => match us, hl with | [_], _ => rfl)
    d_many_numbers := defAt_mk (fun_mk (st := s_many_numbers) l10 c10 k10) (PySem.W.mg_of X G a10) (fun _ _ _ _ _ _ us hl => match us, hl with | [_], _ => rfl)
    d_behind := defAt_mk (fun_mk (st := s_behind) l11 c11 k11) (PySem.W.mg_of X G a11) (fun _ _ _ _ _ _ us hl => match us, hl with | [_, _, _], _ => rfl)
    d__law_box := defAt_mk (fun_mk (st := s__law_box) l12 c12 k12) (PySem.W.mg_of X G a12) (fun _ _ _ _ _ _ us hl => match us, hl with | [_, _], _ => rfl)
    d__law_take := defAt_mk (fun_mk (st := s__law_take) l13 c13 k13) (PySem.W.mg_of X G a13) (fun _ _ _ _ _ _ us hl => match us, hl with | [_, _], _ => rfl)
    d__law_cells := defAt_mk (fun_mk (st := s__law_cells) l14 c14 k14) (PySem.W.mg_of X G a14) (fun _ _ _ _ _ _ us hl => match us, hl with | [_, _], _ => rfl)
    d__law_of := defAt_mk (fun_mk (st := s__law_of) l15 c15 k15) (PySem.W.mg_of X G a15) (fun _ _ _ _ _ _ us hl => match us, hl with | [_, _], _ => rfl)
    d__law_same := defAt_mk (fun_mk (st := s__law_same) l16 c16 k16) (PySem.W.mg_of X G a16) (fun _ _ _ _ _ _ us hl => match us, hl with | [_, _], _ => rfl)
    d__law_blocks := defAt_mk (fun_mk (st := s__law_blocks) l17 c17 k17) (PySem.W.mg_of X G a17) (fun _ _ _ _ _ _ us hl => match us, hl with | [_, _], _ => rfl)
    d__law_tops := defAt_mk (fun_mk (st := s__law_tops) l18 c18 k18) (PySem.W.mg_of X G a18) (fun _ _ _ _ _ _ us hl => match us, hl with | [_], _ => rfl)
    d__law_lies := defAt_mk (fun_mk (st := s__law_lies) l19 c19 k19) (PySem.W.mg_of X G a19) (fun _ _ _ _ _ _ us hl => match us, hl with | [_, _], _ => rfl)
    d__law_drawn_row := defAt_mk (fun_mk (st := s__law_drawn_row) l20 c20 k20) (PySem.W.mg_of X G a20) (fun _ _ _ _ _ _ us hl => match us, hl with | [_, _], _ => rfl)
    d__law_shown := defAt_mk (fun_mk (st := s__law_shown) l21 c21 k21) (PySem.W.mg_of X G a21) (fun _ _ _ _ _ _ us hl => match us, hl with | [_, _, _], _ => rfl)
    d__law_set_of := defAt_mk (fun_mk (st := s__law_set_of) l22 c22 k22) (PySem.W.mg_of X G a22) (fun _ _ _ _ _ _ us hl => match us, hl with | [_], _ => rfl)
    d__law_blocks_of := defAt_mk (fun_mk (st := s__law_blocks_of) l23 c23 k23) (PySem.W.mg_of X G a23) (fun _ _ _ _ _ _ us hl => match us, hl with | [_], _ => rfl)
    d__law_behind_of := defAt_mk (fun_mk (st := s__law_behind_of) l24 c24 k24) (PySem.W.mg_of X G a24) (fun _ _ _ _ _ _ us hl => match us, hl with | [_, _, _], _ => rfl)
    d__law_three_right := defAt_mk (fun_mk (st := s__law_three_right) l25 c25 k25) (PySem.W.mg_of X G a25) (fun _ _ _ _ _ _ us hl => match us, hl with | [_, _], _ => rfl)
    d__law_shape_right := defAt_mk (fun_mk (st := s__law_shape_right) l26 c26 k26) (PySem.W.mg_of X G a26) (fun _ _ _ _ _ _ us hl => match us, hl with | [_, _], _ => rfl)
  }
  exact ⟨PySem.W.fnOf "law" "law" (defArgs s_law) (defBody s_law) (defScope s_law) .none kV27 dc27 pm27 an27 cd27 ct27, fun s v => .of_eq rfl, fun base _ _ => ok_law (fun_mk (st := s_law) l27 c27 k27) T⟩
end K92
open PySem PySem.W PyProof.Rows
set_option maxHeartbeats 0 in
theorem PySem.Challenge.cw_cutsmaller_k92_whole_fillings_as_sets_pu_holds : PySem.Challenge.rw_cutsmaller_k92_whole_fillings_as_sets_pu.Holds := by
  w_on; o_law; k_head; (case hw => w_witness2)
  k_fill
  refine L2.walk_of (l := PySem.Challenge.rw_cutsmaller_k92_whole_fillings_as_sets_pu) (n := 63) (k := 9) (x := "script") (CX := fun _ => L2.CX0) (sp := fun w => Cu.spLaw _) rfl (by decide) rfl ⟨rfl, by decide, by decide⟩ (fun w h Y => PySem.W.kIn_of Y) ?F (fun _ _ a ns hl _ hS => ⟨a, ns, rfl, hS, hl, fun _ => rfl⟩) (fun _ _ _ _ _ h => h)
  case F =>
    intro w mg fa h KX G hmg
    refine' K92.all_mk KX G hmg ?a0 ?l0 ?c0 ?k0 ?a1 ?l1 ?c1 ?k1 ?a2 ?l2 ?c2 ?k2 ?a3 ?l3 ?c3 ?k3 ?a4 ?l4 ?c4 ?k4 ?a5 ?l5 ?c5 ?k5 ?a6 ?l6 ?c6 ?k6 ?a7 ?l7 ?c7 ?k7 ?a8 ?l8 ?c8 ?k8 ?a9 ?l9 ?c9 ?k9 ?a10 ?l10 ?c10 ?k10 ?a11 ?l11 ?c11 ?k11 ?a12 ?l12 ?c12 ?k12 ?a13 ?l13 ?c13 ?k13 ?a14 ?l14 ?c14 ?k14 ?a15 ?l15 ?c15 ?k15 ?a16 ?l16 ?c16 ?k16 ?a17 ?l17 ?c17 ?k17 ?a18 ?l18 ?c18 ?k18 ?a19 ?l19 ?c19 ?k19 ?a20 ?l20 ?c20 ?k20 ?a21 ?l21 ?c21 ?k21 ?a22 ?l22 ?c22 ?k22 ?a23 ?l23 ?c23 ?k23 ?a24 ?l24 ?c24 ?k24 ?a25 ?l25 ?c25 ?k25 ?a26 ?l26 ?c26 ?k26 ?a27 ?l27 ?c27 ?k27 ?z_len ?z_abs ?z_int ?z_list ?z_tuple ?z_any ?z_all ?z_sum ?z_sorted ?z_min ?z_range ?z_zip ?z_enumerate ?z_isinstance ?z_set ?z_bool ?z_str
    (case a0 => k_is)
    (case l0 => k_is)
    (case c0 => k_is)
    (case k0 => k_is)
    (case a1 => k_is)
    (case l1 => k_is)
    (case c1 => k_is)
    (case k1 => k_is)
    (case a2 => k_is)
    (case l2 => k_is)
    (case c2 => k_is)
    (case k2 => k_is)
    (case a3 => k_is)
    (case l3 => k_is)
    (case c3 => k_is)
    (case k3 => k_is)
    (case a4 => k_is)
    (case l4 => k_is)
    (case c4 => k_is)
    (case k4 => k_is)
    (case a5 => k_is)
    (case l5 => k_is)
    (case c5 => k_is)
    (case k5 => k_is)
    (case a6 => k_is)
    (case l6 => k_is)
    (case c6 => k_is)
    (case k6 => k_is)
    (case a7 => k_is)
    (case l7 => k_is)
    (case c7 => k_is)
    (case k7 => k_is)
    (case a8 => k_is)
    (case l8 => k_is)
    (case c8 => k_is)
    (case k8 => k_is)
    (case a9 => k_is)
    (case l9 => k_is)
    (case c9 => k_is)
    (case k9 => k_is)
    (case a10 => k_is)
    (case l10 => k_is)
    (case c10 => k_is)
    (case k10 => k_is)
    (case a11 => k_is)
    (case l11 => k_is)
    (case c11 => k_is)
    (case k11 => k_is)
    (case a12 => k_is)
    (case l12 => k_is)
    (case c12 => k_is)
    (case k12 => k_is)
    (case a13 => k_is)
    (case l13 => k_is)
    (case c13 => k_is)
    (case k13 => k_is)
    (case a14 => k_is)
    (case l14 => k_is)
    (case c14 => k_is)
    (case k14 => k_is)
    (case a15 => k_is)
    (case l15 => k_is)
    (case c15 => k_is)
    (case k15 => k_is)
    (case a16 => k_is)
    (case l16 => k_is)
    (case c16 => k_is)
    (case k16 => k_is)
    (case a17 => k_is)
    (case l17 => k_is)
    (case c17 => k_is)
    (case k17 => k_is)
    (case a18 => k_is)
    (case l18 => k_is)
    (case c18 => k_is)
    (case k18 => k_is)
    (case a19 => k_is)
    (case l19 => k_is)
    (case c19 => k_is)
    (case k19 => k_is)
    (case a20 => k_is)
    (case l20 => k_is)
    (case c20 => k_is)
    (case k20 => k_is)
    (case a21 => k_is)
    (case l21 => k_is)
    (case c21 => k_is)
    (case k21 => k_is)
    (case a22 => k_is)
    (case l22 => k_is)
    (case c22 => k_is)
    (case k22 => k_is)
    (case a23 => k_is)
    (case l23 => k_is)
    (case c23 => k_is)
    (case k23 => k_is)
    (case a24 => k_is)
    (case l24 => k_is)
    (case c24 => k_is)
    (case k24 => k_is)
    (case a25 => k_is)
    (case l25 => k_is)
    (case c25 => k_is)
    (case k25 => k_is)
    (case a26 => k_is)
    (case l26 => k_is)
    (case c26 => k_is)
    (case k26 => k_is)
    (case a27 => k_is)
    (case l27 => k_is)
    (case c27 => k_is)
    (case k27 => k_is)
    (case z_len => k_is)
    (case z_abs => k_is)
    (case z_int => k_is)
    (case z_list => k_is)
    (case z_tuple => k_is)
    (case z_any => k_is)
    (case z_all => k_is)
    (case z_sum => k_is)
    (case z_sorted => k_is)
    (case z_min => k_is)
    (case z_range => k_is)
    (case z_zip => k_is)
    (case z_enumerate => k_is)
    (case z_isinstance => k_is)
    (case z_set => k_is)
    (case z_bool => k_is)
    (case z_str => k_is)
