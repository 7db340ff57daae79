import PyProof.Rows.All
import Wide.All
import OpenK.AllK
import Wide.FinOn
import HandS.ForMost
import HandS.Style
import HandS.IsInst
import HandS.TupAny
import HandS.TupMul
import HandS.Wide
import HandS.SortInts
import HandS.Conv
import HandS.Rev
import HandS.RevRange
import HandS.EndBits
import HandS.NoneIn
import HandS.SortKw
import HandS.DictComp
import HandS.DictTup
import PySem.Challenge.RW_hornhive_k08_whole_levels_turn_add_and_g
set_option Elab.async false
set_option linter.all false
set_option maxRecDepth 100000
set_option maxHeartbeats 4000000
/-! Pd: plain data over the hand layer. A def of the text as a function of plain data. -/
namespace Pd
open PySem PySem.Spec PyProof.Rows L2

/-! ### heaps -/
theorem same_upd {H : Hp} {p : Addr} {o : HO} (h : H p = none) : Same H (upd H p o) := fun b x e => by
  rw [upd_ne (ne_of_none e h)]
  exact e
theorem Same.seqT {K : PySem.W.Frag} {H H' : Hp} {a : Addr} {xs : List V} (e : Same H H') (h : SqT K H a xs) : SqT K H' a xs := by
  rcases h with (h | ⟨o, h⟩) | h
  · exact .inl (.inl (e _ _ h))
  · exact .inl (.inr ⟨o, e _ _ h⟩)
  · exact .inr h
theorem Same.rd {H H' : Hp} {a : Addr} {u : HO} (e : Same H H') (h : Rd H a u) : Rd H' a u := by
  rcases h with h | ⟨o, h⟩
  · exact .inl (e _ _ h)
  · exact .inr ⟨o, e _ _ h⟩
/-- a key as data -/
def keyD : Key → PyData
  | .inl i => .int i
  | .inr x => .str x
def tkD (ks : List Key) : PyData := .tuple (ks.map keyD)
mutual
/-- data that stands in a heap -/
inductive Dp (K : PySem.W.Frag) (H : Hp) : V → PyData → Prop
  | non : Dp K H .non .none
  | bl (b : Bool) : Dp K H (.bl b) (.bool b)
  | int (i : Int) : Dp K H (.int i) (.int i)
  | str (x : Str) : Dp K H (.str x) (.str x)
  | lst {a : Addr} {xs : List V} {ds : List PyData} (hs : SqL K H a xs) (ha : DpAll K H xs ds) : Dp K H (.ref a) (.list ds)
  | tup {a : Addr} {xs : List V} {ds : List PyData} (hs : SqT K H a xs) (ha : DpAll K H xs ds) : Dp K H (.ref a) (.tuple ds)
  | dk {a : Addr} {ks : List (Key × V)} {kvs : List (PyData × PyData)} (hs : Rd H a (.dK ks)) (hk : kvs.map (·.1) = ks.map fun p => keyD p.1) (ha : DpAll K H (ks.map (·.2)) (kvs.map (·.2))) : Dp K H (.ref a) (.dict kvs)
  | dt {a : Addr} {ks : List (List Key × V)} {kvs : List (PyData × PyData)} (hs : Rd H a (.dT ks)) (hk : kvs.map (·.1) = ks.map fun p => tkD p.1) (ha : DpAll K H (ks.map (·.2)) (kvs.map (·.2))) : Dp K H (.ref a) (.dict kvs)
inductive DpAll (K : PySem.W.Frag) (H : Hp) : List V → List PyData → Prop
  | nil : DpAll K H [] []
  | cons {v : V} {vs : List V} {d : PyData} {ds : List PyData} (h : Dp K H v d) (t : DpAll K H vs ds) : DpAll K H (v :: vs) (d :: ds)
end
/-- what data leans on goes over to another heap -/
structure Ov0 (K : PySem.W.Frag) (H H' : Hp) : Prop where
  l : ∀ a xs, SqL K H a xs → SqL K H' a xs
  t : ∀ a xs, SqT K H a xs → SqT K H' a xs
  k : ∀ a ks, Rd H a (.dK ks) → Rd H' a (.dK ks)
  d : ∀ a ks, Rd H a (.dT ks) → Rd H' a (.dT ks)
theorem Ov0.of {K : PySem.W.Frag} {H H' : Hp} (e : Same H H') : Ov0 K H H' := ⟨fun _ _ h => e.seq h, fun _ _ h => Same.seqT e h, fun _ _ h => Same.rd e h, fun _ _ h => Same.rd e h⟩
theorem Dp.over {K : PySem.W.Frag} {H H' : Hp} (m : Ov0 K H H') {v : V} {d : PyData} (h : Dp K H v d) : Dp K H' v d :=
  Dp.rec (motive_1 := fun v d _ => Dp K H' v d) (motive_2 := fun vs ds _ => DpAll K H' vs ds) .non .bl .int .str (fun hs _ ih => .lst (m.l _ _ hs) ih) (fun hs _ ih => .tup (m.t _ _ hs) ih)
    (fun hs hk _ ih => .dk (m.k _ _ hs) hk ih) (fun hs hk _ ih => .dt (m.d _ _ hs) hk ih) .nil (fun _ _ i1 i2 => .cons i1 i2) h
theorem DpAll.over {K : PySem.W.Frag} {H H' : Hp} (m : Ov0 K H H') : ∀ {vs : List V} {ds : List PyData}, DpAll K H vs ds → DpAll K H' vs ds
  | _, [], h => by cases h; exact .nil
  | _, d :: ds, h => by
    cases h with
    | cons h t => exact .cons (h.over m) (DpAll.over m t)
theorem Dp.mo {K : PySem.W.Frag} {H H' : Hp} {v : V} {d : PyData} (h : Dp K H v d) (e : Same H H') : Dp K H' v d := h.over (.of e)
theorem DpAll.mo {K : PySem.W.Frag} {H H' : Hp} {v : List V} {d : List PyData} (h : DpAll K H v d) (e : Same H H') : DpAll K H' v d := h.over (.of e)
/-- the library's own words, where no dict is in it -/
theorem Dp.l2 {K : PySem.W.Frag} {H : Hp} {v : V} {d : PyData} (h : Dp K H v d) : d.canLay0 = true → L2.Dp K H v d :=
  Dp.rec (motive_1 := fun v d _ => d.canLay0 = true → L2.Dp K H v d) (motive_2 := fun vs ds _ => PyData.canLayAll0 ds = true → L2.DpAll K H vs ds) (fun _ => .non) (fun b _ => .bl b) (fun i _ => .int i) (fun x _ => .str x)
    (fun hs _ ih c => .lst hs (ih (by rwa [PyData.canLay0] at c))) (fun hs _ ih c => .tup hs (ih (by rwa [PyData.canLay0] at c)))
    (fun _ _ _ _ c => by rw [PyData.canLay0] at c; cases c) (fun _ _ _ _ c => by rw [PyData.canLay0] at c; cases c) (fun _ => .nil)
    (fun _ _ i1 i2 c => by
      rw [PyData.canLayAll0, Bool.and_eq_true] at c
      exact .cons (i1 c.1) (i2 c.2)) h
theorem Dp.sh {K : PySem.W.Frag} {H : Hp} {v : V} {d : PyData} (h : Dp K H v d) (s : SeqAt.shaped d = true) : L2.Dp K H v d := h.l2 (by
  unfold SeqAt.shaped at s
  rw [Bool.and_eq_true] at s
  exact s.1)
theorem DpAll.length {K : PySem.W.Frag} {H : Hp} : ∀ {vs : List V} {ds : List PyData}, DpAll K H vs ds → vs.length = ds.length
  | _, [], h => by cases h; rfl
  | _, d :: ds, h => by
    cases h with
    | cons h1 h2 => simp [DpAll.length h2]
theorem DpAll.append {K : PySem.W.Frag} {H : Hp} : ∀ {vs us : List V} {ds es : List PyData}, DpAll K H vs ds → DpAll K H us es → DpAll K H (vs ++ us) (ds ++ es)
  | _, _, [], _, h, g => by cases h; exact g
  | _, _, d :: ds, _, h, g => by
    cases h with
    | cons h1 h2 => exact .cons h1 (DpAll.append h2 g)
theorem DpAll.get {K : PySem.W.Frag} {H : Hp} : ∀ {vs : List V} {ds : List PyData} {i : Nat} {d : PyData}, DpAll K H vs ds → ds[i]? = some d → ∃ v, vs[i]? = some v ∧ Dp K H v d
  | _, [], i, d, h, e => by simp at e
  | _, d :: ds, 0, _, h, e => by
    cases h with
    | cons h1 h2 =>
      simp at e
      subst e
      exact ⟨_, rfl, h1⟩
  | _, d :: ds, i + 1, _, h, e => by
    cases h with
    | cons h1 h2 =>
      obtain ⟨v, a, b⟩ := DpAll.get h2 (by simpa using e)
      exact ⟨v, by simpa using a, b⟩
theorem DpAll.get' {K : PySem.W.Frag} {H : Hp} {vs : List V} {ds : List PyData} {i : Nat} {v : V} (h : DpAll K H vs ds) (e : vs[i]? = some v) : ∃ d, ds[i]? = some d ∧ Dp K H v d := by
  have hi : i < ds.length := by
    rw [← h.length]
    exact (List.getElem?_eq_some_iff.mp e).1
  obtain ⟨v', a, b⟩ := h.get (List.getElem?_eq_getElem hi)
  rw [e] at a
  cases a
  exact ⟨_, List.getElem?_eq_getElem hi, b⟩
theorem DpAll.take {K : PySem.W.Frag} {H : Hp} : ∀ {vs : List V} {ds : List PyData} (n : Nat), DpAll K H vs ds → DpAll K H (vs.take n) (ds.take n)
  | _, _, 0, _ => by simpa using DpAll.nil
  | _, [], n + 1, h => by cases h; exact .nil
  | _, d :: ds, n + 1, h => by
    cases h with
    | cons h1 h2 => exact .cons h1 (DpAll.take n h2)
theorem DpAll.drop {K : PySem.W.Frag} {H : Hp} : ∀ {vs : List V} {ds : List PyData} (n : Nat), DpAll K H vs ds → DpAll K H (vs.drop n) (ds.drop n)
  | _, _, 0, h => h
  | _, [], n + 1, h => by cases h; exact .nil
  | _, d :: ds, n + 1, h => by
    cases h with
    | cons h1 h2 => exact DpAll.drop n h2
theorem DpAll.set {K : PySem.W.Frag} {H : Hp} {v : V} {d : PyData} (hd : Dp K H v d) : ∀ {vs : List V} {ds : List PyData} (n : Nat), DpAll K H vs ds → DpAll K H (vs.set n v) (ds.set n d)
  | _, [], n, h => by cases h; exact .nil
  | _, e :: ds, 0, h => by
    cases h with
    | cons h1 h2 => exact .cons hd h2
  | _, e :: ds, n + 1, h => by
    cases h with
    | cons h1 h2 => exact .cons h1 (DpAll.set hd n h2)
theorem DpAll.reverse {K : PySem.W.Frag} {H : Hp} : ∀ {vs : List V} {ds : List PyData}, DpAll K H vs ds → DpAll K H vs.reverse ds.reverse
  | _, [], h => by cases h; exact .nil
  | _, d :: ds, h => by
    cases h with
    | cons h1 h2 =>
      rw [List.reverse_cons, List.reverse_cons]
      exact (DpAll.reverse h2).append (.cons h1 .nil)
theorem DpAll.rep {K : PySem.W.Frag} {H : Hp} {vs : List V} {ds : List PyData} (h : DpAll K H vs ds) : ∀ k : Nat, DpAll K H (List.replicate k vs).flatten (List.replicate k ds).flatten
  | 0 => .nil
  | k + 1 => by
    simp only [List.replicate_succ, List.flatten_cons]
    exact h.append (DpAll.rep h k)
abbrev SS := L2.St
/-! ### from one heap to a later one: H what is tracked, G the part of it that stays as it is -/
structure Ext (H G H' G' : Hp) : Prop where
  h : Same H H'
  g : Same G G'
  s : Same G' H'
  n : ∀ a o, H a = some o → Mut (some o) → G a = none → G' a = none
theorem Ext.refl {H G : Hp} (s : Same G H) : Ext H G H G := ⟨.refl H, .refl G, s, fun _ _ _ _ h => h⟩
theorem Ext.trans {H G H1 G1 H2 G2 : Hp} (a : Ext H G H1 G1) (b : Ext H1 G1 H2 G2) : Ext H G H2 G2 :=
  ⟨a.h.trans b.h, a.g.trans b.g, b.s, fun p o h m g => b.n p o (a.h p o h) m (a.n p o h m g)⟩
/-- a new object that is frozen -/
theorem Ext.new {H G : Hp} {p : Addr} {o : HO} (s : Same G H) (hp : H p = none) : Ext H G (upd H p o) (upd G p o) := by
  have gp : G p = none := s.free hp
  refine ⟨same_upd hp, same_upd gp, fun b x e => ?_, fun b x hb _ gb => ?_⟩
  · by_cases hq : b = p
    · subst hq
      rw [upd_same] at e ⊢
      exact e
    · rw [upd_ne hq] at e ⊢
      exact s b x e
  · have : b ≠ p := ne_of_none hb hp
    rw [upd_ne this]
    exact gb
/-- a new object that is not -/
theorem Ext.newO {H G : Hp} {p : Addr} {o : HO} (s : Same G H) (hp : H p = none) : Ext H G (upd H p o) G :=
  ⟨same_upd hp, .refl G, s.trans (same_upd hp), fun _ _ _ _ g => g⟩
/-- one that was made since, frozen -/
theorem Ext.frz {H0 G0 H G : Hp} {p : Addr} {o : HO} (e : Ext H0 G0 H G) (h0 : H0 p = none) (hp : H p = some o) (gp : G p = none) : Ext H0 G0 H (upd G p o) := by
  refine ⟨e.h, e.g.trans (same_upd gp), fun b x q => ?_, fun b x hb m gb => ?_⟩
  · by_cases hq : b = p
    · subst hq
      rw [upd_same] at q
      cases q
      exact hp
    · rw [upd_ne hq] at q
      exact e.s b x q
  · have : b ≠ p := ne_of_none hb h0
    rw [upd_ne this]
    exact e.n b x hb m gb
/-- a tuple that stands, frozen -/
theorem Ext.frzT {H0 G0 H G : Hp} {p : Addr} {xs : List V} (e : Ext H0 G0 H G) (hp : H p = some (.tup xs)) : ∃ G', Ext H0 G0 H G' ∧ Same G G' ∧ G' p = some (.tup xs) ∧ ∀ a o, H a = some o → Mut (some o) → G a = none → G' a = none := by
  cases gp : G p with
  | some o =>
    have := e.s p o gp
    rw [hp] at this
    cases this
    exact ⟨G, e, .refl G, gp, fun _ _ _ _ h => h⟩
  | none =>
    have key : ∀ b o, H b = some o → Mut (some o) → b ≠ p := fun b o hb m q => by
      subst q
      rw [hp] at hb
      cases hb
      exact m
    refine ⟨upd G p (.tup xs), ⟨e.h, e.g.trans (same_upd gp), fun b x q => ?_, fun b x hb m gb => ?_⟩, same_upd gp, upd_same, fun a o ha m ga => ?_⟩
    · by_cases hq : b = p
      · subst hq
        rw [upd_same] at q
        cases q
        exact hp
      · rw [upd_ne hq] at q
        exact e.s b x q
    · rw [upd_ne (key b x (e.h b x hb) m)]
      exact e.n b x hb m gb
    · rw [upd_ne (key a o ha m)]
      exact ga
/-- one that was made since, changed -/
theorem Ext.chg {H0 G0 H G : Hp} {p : Addr} {o : HO} (e : Ext H0 G0 H G) (h0 : H0 p = none) (gp : G p = none) : Ext H0 G0 (upd H p o) G := by
  refine ⟨fun b x q => ?_, e.g, fun b x q => ?_, e.n⟩
  · rw [upd_ne (ne_of_none q h0)]
    exact e.h b x q
  · rw [upd_ne (ne_of_none q gp)]
    exact e.s b x q

/-! ### trees of one's own objects -/
inductive OT where
  | fr (d : PyData)
  | li (ts : List OT)
  | dk (kvs : List (Key × PyData))
  | dt (kvs : List (List Key × PyData))
mutual
/-- the tree t stands at v, its own objects at fp -/
inductive Ow (K : PySem.W.Frag) (H G : Hp) : V → OT → List Addr → Prop
  | fr {v : V} {d : PyData} (h : Dp K G v d) : Ow K H G v (.fr d) []
  | li {p : Addr} {vs : List V} {ts : List OT} {fp : List Addr} (hp : H p = some (.lst vs)) (gp : G p = none) (h : Ows K H G vs ts fp) (n : p ∉ fp) : Ow K H G (.ref p) (.li ts) (p :: fp)
  | dk {p : Addr} {ks : List (Key × V)} {kvs : List (Key × PyData)} (hp : H p = some (.dK ks)) (gp : G p = none) (hk : kvs.map (·.1) = ks.map (·.1)) (h : DpAll K G (ks.map (·.2)) (kvs.map (·.2))) : Ow K H G (.ref p) (.dk kvs) [p]
  | dt {p : Addr} {ks : List (List Key × V)} {kvs : List (List Key × PyData)} (hp : H p = some (.dT ks)) (gp : G p = none) (hk : kvs.map (·.1) = ks.map (·.1)) (h : DpAll K G (ks.map (·.2)) (kvs.map (·.2))) : Ow K H G (.ref p) (.dt kvs) [p]
inductive Ows (K : PySem.W.Frag) (H G : Hp) : List V → List OT → List Addr → Prop
  | nil : Ows K H G [] [] []
  | cons {v : V} {vs : List V} {t : OT} {ts : List OT} {fp fq : List Addr} (h : Ow K H G v t fp) (r : Ows K H G vs ts fq) (n : ∀ a ∈ fp, a ∉ fq) : Ows K H G (v :: vs) (t :: ts) (fp ++ fq)
end
section
variable {K : PySem.W.Frag} {H G H' G' : Hp}
/-- every object of a tree stands, may be written, is not frozen -/
theorem Ow.at' {v : V} {t : OT} {fp : List Addr} (h : Ow K H G v t fp) : ∀ a ∈ fp, ∃ o, H a = some o ∧ Mut (some o) ∧ G a = none :=
  Ow.rec (motive_1 := fun _ _ fp _ => ∀ a ∈ fp, ∃ o, H a = some o ∧ Mut (some o) ∧ G a = none) (motive_2 := fun _ _ fp _ => ∀ a ∈ fp, ∃ o, H a = some o ∧ Mut (some o) ∧ G a = none)
    (fun _ a ha => by cases ha) (fun hp gp _ _ ih a ha => by
      rcases List.mem_cons.mp ha with rfl | ha
      · exact ⟨_, hp, trivial, gp⟩
      · exact ih a ha)
    (fun hp gp _ _ a ha => by
      rw [List.mem_singleton.mp ha]
      exact ⟨_, hp, trivial, gp⟩)
    (fun hp gp _ _ a ha => by
      rw [List.mem_singleton.mp ha]
      exact ⟨_, hp, trivial, gp⟩)
    (fun a ha => by cases ha) (fun _ _ _ i1 i2 a ha => by
      rcases List.mem_append.mp ha with ha | ha
      · exact i1 a ha
      · exact i2 a ha) h
/-- a tree in another heap that keeps its objects -/
theorem Ow.to {v : V} {t : OT} {fp : List Addr} (h : Ow K H G v t fp) : (∀ a ∈ fp, ∀ o, H a = some o → H' a = some o) → Ov0 K G G' → (∀ a ∈ fp, G a = none → G' a = none) → Ow K H' G' v t fp :=
  Ow.rec (motive_1 := fun v t fp _ => (∀ a ∈ fp, ∀ o, H a = some o → H' a = some o) → Ov0 K G G' → (∀ a ∈ fp, G a = none → G' a = none) → Ow K H' G' v t fp)
    (motive_2 := fun v t fp _ => (∀ a ∈ fp, ∀ o, H a = some o → H' a = some o) → Ov0 K G G' → (∀ a ∈ fp, G a = none → G' a = none) → Ows K H' G' v t fp)
    (fun hd _ m _ => .fr (hd.over m))
    (fun hp gp _ n ih k m g => .li (k _ List.mem_cons_self _ hp) (g _ List.mem_cons_self gp) (ih (fun a ha => k a (List.mem_cons_of_mem _ ha)) m fun a ha => g a (List.mem_cons_of_mem _ ha)) n)
    (fun hp gp hk hd k m g => .dk (k _ (List.mem_singleton.mpr rfl) _ hp) (g _ (List.mem_singleton.mpr rfl) gp) hk (hd.over m))
    (fun hp gp hk hd k m g => .dt (k _ (List.mem_singleton.mpr rfl) _ hp) (g _ (List.mem_singleton.mpr rfl) gp) hk (hd.over m))
    (fun _ _ _ => .nil)
    (fun _ _ n i1 i2 k m g => .cons (i1 (fun a ha => k a (List.mem_append.mpr (.inl ha))) m fun a ha => g a (List.mem_append.mpr (.inl ha))) (i2 (fun a ha => k a (List.mem_append.mpr (.inr ha))) m fun a ha => g a (List.mem_append.mpr (.inr ha))) n) h
theorem Ow.ext {v : V} {t : OT} {fp : List Addr} (h : Ow K H G v t fp) (e : Ext H G H' G') : Ow K H' G' v t fp := h.to (fun a _ o q => e.h a o q) (.of e.g) fun a ha g => by
  obtain ⟨o, h1, h2, _⟩ := h.at' a ha
  exact e.n a o h1 h2 g
/-- another object is written -/
theorem Ow.upd {v : V} {t : OT} {fp : List Addr} {p : Addr} {o : HO} (h : Ow K H G v t fp) (n : p ∉ fp) : Ow K (upd H p o) G v t fp := h.to (fun a ha u q => by
  rw [upd_ne (fun z => n (by rw [← z]; exact ha))]
  exact q) (.of (.refl G)) fun _ _ g => g
mutual
/-- a tree as data -/
def OT.dat : OT → PyData
  | .fr d => d
  | .li ts => .list (OT.dats ts)
  | .dk kvs => .dict (kvs.map fun p => (keyD p.1, p.2))
  | .dt kvs => .dict (kvs.map fun p => (tkD p.1, p.2))
def OT.dats : List OT → List PyData
  | [] => []
  | t :: r => OT.dat t :: OT.dats r
end
theorem map_fst {α β γ : Type} {kvs : List (α × β)} {ks : List (α × γ)} (h : kvs.map (·.1) = ks.map (·.1)) (f : α → PyData) (g : β → PyData) : (kvs.map fun p => (f p.1, g p.2)).map (·.1) = ks.map fun p => f p.1 := by
  rw [List.map_map]
  have := congrArg (List.map f) h
  rw [List.map_map, List.map_map] at this
  exact this
theorem map_snd {α β : Type} {kvs : List (α × β)} (f : α → PyData) : (kvs.map fun p => (f p.1, p.2)).map (·.2) = kvs.map (·.2) := by
  rw [List.map_map]
  rfl
/-- a tree is data in the heap as it stands -/
theorem Ow.dp {v : V} {t : OT} {fp : List Addr} (s : Same G H) (h : Ow K H G v t fp) : Dp K H v t.dat :=
  Ow.rec (motive_1 := fun v t _ _ => Dp K H v t.dat) (motive_2 := fun vs ts _ _ => DpAll K H vs (OT.dats ts))
    (fun h => by rw [OT.dat]; exact h.mo s) (fun hp _ _ _ ih => by rw [OT.dat]; exact .lst (.inl (.inl hp)) ih)
    (fun hp _ hk h => by
      rw [OT.dat]
      exact .dk (.inl hp) (map_fst hk keyD id) (by rw [map_snd]; exact h.mo s))
    (fun hp _ hk h => by
      rw [OT.dat]
      exact .dt (.inl hp) (map_fst hk tkD id) (by rw [map_snd]; exact h.mo s))
    (by rw [OT.dats]; exact .nil) (fun _ _ _ i1 i2 => by rw [OT.dats]; exact .cons i1 i2) h
/-- its objects are frozen -/
def frzA (H G : Hp) (fp : List Addr) : Hp := fun a => if a ∈ fp then H a else G a
theorem frzA_in {fp : List Addr} {a : Addr} (h : a ∈ fp) : frzA H G fp a = H a := if_pos h
theorem frzA_out {fp : List Addr} {a : Addr} (h : a ∉ fp) : frzA H G fp a = G a := if_neg h
theorem Ow.frozen {v : V} {t : OT} {fp : List Addr} (h : Ow K H G v t fp) : ∀ fq, (∀ a ∈ fp, a ∈ fq) → Same G (frzA H G fq) → Dp K (frzA H G fq) v t.dat :=
  Ow.rec (motive_1 := fun v t fp _ => ∀ fq, (∀ a ∈ fp, a ∈ fq) → Same G (frzA H G fq) → Dp K (frzA H G fq) v t.dat) (motive_2 := fun vs ts fp _ => ∀ fq, (∀ a ∈ fp, a ∈ fq) → Same G (frzA H G fq) → DpAll K (frzA H G fq) vs (OT.dats ts))
    (fun h fq _ s => by rw [OT.dat]; exact h.mo s)
    (fun hp _ _ _ ih fq i s => by
      rw [OT.dat]
      exact .lst (.inl (.inl (by rw [frzA_in (i _ List.mem_cons_self)]; exact hp))) (ih fq (fun a ha => i a (List.mem_cons_of_mem _ ha)) s))
    (fun hp _ hk h fq i s => by
      rw [OT.dat]
      exact .dk (.inl (by rw [frzA_in (i _ (List.mem_singleton.mpr rfl))]; exact hp)) (map_fst hk keyD id) (by rw [map_snd]; exact h.mo s))
    (fun hp _ hk h fq i s => by
      rw [OT.dat]
      exact .dt (.inl (by rw [frzA_in (i _ (List.mem_singleton.mpr rfl))]; exact hp)) (map_fst hk tkD id) (by rw [map_snd]; exact h.mo s))
    (fun _ _ _ => by rw [OT.dats]; exact .nil) (fun _ _ _ i1 i2 fq i s => by
      rw [OT.dats]
      exact .cons (i1 fq (fun a ha => i a (List.mem_append.mpr (.inl ha))) s) (i2 fq (fun a ha => i a (List.mem_append.mpr (.inr ha))) s)) h
end

/-! ### what a name holds -/
inductive Sl where
  | un
  | cl (d : PyData)
  | ow (ds : List PyData)
  | rd (d : PyData)
  | tr (k : Option Nat) (t : OT)
abbrev En := List Sl
/-- where a def began: the heap without what is its own, the roots of its own arguments -/
structure Bs where
  h : Hp
  r : Nat → Option V
def SlOk (K : PySem.W.Frag) (B : Bs) (H G : Hp) (o : Option (Option V)) (fp : List Addr) : Sl → Prop
  | .un => fp = []
  | .cl d => fp = [] ∧ ∃ v, o = some (some v) ∧ Dp K G v d
  | .ow ds => ∃ p xs, fp = [p] ∧ o = some (some (.ref p)) ∧ H p = some (.lst xs) ∧ G p = none ∧ DpAll K G xs ds
  | .rd d => fp = [] ∧ ∃ v, o = some (some v) ∧ Dp K B.h v d
  | .tr k t => ∃ v, o = some (some v) ∧ (∀ j, k = some j → B.r j = some v) ∧ Ow K H G v t fp
/-- each name's objects, apart from one another -/
structure Fps (K : PySem.W.Frag) (B : Bs) (E : En) (σ : SS) (H G : Hp) (fp : Nat → List Addr) : Prop where
  ok : ∀ (i : Nat) s, E[i]? = some s → SlOk K B H G σ[i]? (fp i) s
  out : ∀ i : Nat, E.length ≤ i → fp i = []
  dj : ∀ i j : Nat, i ≠ j → ∀ a ∈ fp i, a ∉ fp j
  nw : ∀ i : Nat, ∀ a ∈ fp i, B.h a = none
structure SI (K : PySem.W.Frag) (B : Bs) (G0 : Hp) (E : En) (σ : SS) (H G : Hp) : Prop where
  len : σ.length = E.length
  e : Ext B.h G0 H G
  v : ∃ fp, Fps K B E σ H G fp
section
variable {K : PySem.W.Frag} {B : Bs} {G0 H G H' G' : Hp} {E : En} {σ : SS}
theorem SI.s (I : SI K B G0 E σ H G) : Same G H := I.e.s
theorem SlOk.at' {o : Option (Option V)} {s : Sl} {fp : List Addr} (h : SlOk K B H G o fp s) : ∀ a ∈ fp, ∃ u, H a = some u ∧ Mut (some u) ∧ G a = none := fun a ha => by
  cases s with
  | un =>
    have h : fp = [] := h
    rw [h] at ha
    cases ha
  | cl d =>
    rw [h.1] at ha
    cases ha
  | rd d =>
    rw [h.1] at ha
    cases ha
  | ow ds =>
    obtain ⟨p, xs, e, _, h1, h2, _⟩ := h
    rw [e] at ha
    rw [List.mem_singleton.mp ha]
    exact ⟨_, h1, trivial, h2⟩
  | tr k t =>
    obtain ⟨v, _, _, h⟩ := h
    exact h.at' a ha
/-- a slot in another heap -/
theorem SlOk.to {o : Option (Option V)} {s : Sl} {fp : List Addr} (h : SlOk K B H G o fp s) (k : ∀ a ∈ fp, ∀ u, H a = some u → H' a = some u) (m : Same G G') (g : ∀ a ∈ fp, G a = none → G' a = none) : SlOk K B H' G' o fp s := by
  cases s with
  | un => exact h
  | cl d =>
    obtain ⟨e, v, a, b⟩ := h
    exact ⟨e, v, a, b.mo m⟩
  | rd d => exact h
  | ow ds =>
    obtain ⟨p, xs, e, a, b, c, f⟩ := h
    subst e
    exact ⟨p, xs, rfl, a, k p (List.mem_singleton.mpr rfl) _ b, g p (List.mem_singleton.mpr rfl) c, f.mo m⟩
  | tr j t =>
    obtain ⟨v, a, b, c⟩ := h
    exact ⟨v, a, b, c.to k (.of m) g⟩
theorem SlOk.ext {o : Option (Option V)} {s : Sl} {fp : List Addr} (h : SlOk K B H G o fp s) (e : Ext H G H' G') : SlOk K B H' G' o fp s := h.to (fun a _ u q => e.h a u q) e.g fun a ha q => by
  obtain ⟨u, h1, h2, _⟩ := h.at' a ha
  exact e.n a u h1 h2 q
theorem Fps.at' {fp : Nat → List Addr} (F : Fps K B E σ H G fp) {i : Nat} {a : Addr} (ha : a ∈ fp i) : ∃ u, H a = some u ∧ Mut (some u) ∧ G a = none := by
  by_cases hi : i < E.length
  · exact (F.ok i _ (List.getElem?_eq_getElem hi)).at' a ha
  · rw [F.out i (Nat.le_of_not_lt hi)] at ha
    cases ha
theorem Fps.ext {fp : Nat → List Addr} (F : Fps K B E σ H G fp) (e : Ext H G H' G') : Fps K B E σ H' G' fp := ⟨fun i s h => (F.ok i s h).ext e, F.out, F.dj, F.nw⟩
theorem SI.ext (I : SI K B G0 E σ H G) (e : Ext H G H' G') : SI K B G0 E σ H' G' := by
  obtain ⟨fp, F⟩ := I.v
  exact ⟨I.len, I.e.trans e, fp, F.ext e⟩
/-- a new address is in no name's objects -/
theorem Fps.new {fp : Nat → List Addr} (F : Fps K B E σ H G fp) {p : Addr} (hp : H p = none) (i : Nat) : p ∉ fp i := fun h => by
  obtain ⟨u, h1, _⟩ := F.at' h
  rw [hp] at h1
  cases h1
theorem SI.clv (I : SI K B G0 E σ H G) {i : Nat} {d : PyData} (h : E[i]? = some (.cl d)) : ∃ v, σ[i]? = some (some v) ∧ Dp K G v d := by
  obtain ⟨fp, F⟩ := I.v
  exact (F.ok i _ h).2
theorem SI.rdv (I : SI K B G0 E σ H G) {i : Nat} {d : PyData} (h : E[i]? = some (.rd d)) : ∃ v, σ[i]? = some (some v) ∧ Dp K H v d := by
  obtain ⟨fp, F⟩ := I.v
  obtain ⟨v, h1, h2⟩ := (F.ok i _ h).2
  exact ⟨v, h1, h2.mo I.e.h⟩
theorem SI.owv (I : SI K B G0 E σ H G) {i : Nat} {ds : List PyData} (h : E[i]? = some (.ow ds)) : ∃ p xs, σ[i]? = some (some (.ref p)) ∧ H p = some (.lst xs) ∧ G p = none ∧ B.h p = none ∧ DpAll K G xs ds := by
  obtain ⟨fp, F⟩ := I.v
  obtain ⟨p, xs, e, h1, h2, h3, h4⟩ := F.ok i _ h
  exact ⟨p, xs, h1, h2, h3, F.nw i p (by rw [e]; exact List.mem_singleton.mpr rfl), h4⟩
theorem SI.trv (I : SI K B G0 E σ H G) {i : Nat} {k : Option Nat} {t : OT} (h : E[i]? = some (.tr k t)) : ∃ v fp, σ[i]? = some (some v) ∧ Ow K H G v t fp ∧ ∀ a ∈ fp, B.h a = none := by
  obtain ⟨fp, F⟩ := I.v
  obtain ⟨v, h1, _, h3⟩ := F.ok i _ h
  exact ⟨v, fp i, h1, h3, F.nw i⟩
theorem get_out {α : Type} {l : List α} {i : Nat} {x : α} (h : ¬ i < l.length) : (l.set i x)[i]? = none := List.getElem?_eq_none (by simpa using Nat.le_of_not_lt h)
/-- the objects of one name are others now -/
def fpSet (fp : Nat → List Addr) (i : Nat) (f : List Addr) : Nat → List Addr := fun j => if j = i then f else fp j
theorem fpSet_same {fp : Nat → List Addr} {i : Nat} {f : List Addr} : fpSet fp i f i = f := if_pos rfl
theorem fpSet_ne {fp : Nat → List Addr} {i j : Nat} {f : List Addr} (h : j ≠ i) : fpSet fp i f j = fp j := if_neg h
/-- one name holds another thing, in another heap -/
theorem Fps.put {fp : Nat → List Addr} (F : Fps K B E σ H G fp) {i : Nat} (hi : i < E.length) {o : Option V} {s : Sl} {f : List Addr} {τ : SS} (hτ : τ[i]? = some o) (ho : ∀ j, j ≠ i → τ[j]? = σ[j]?)
    (hs : SlOk K B H' G' (some o) f s) (k : ∀ j, j ≠ i → ∀ a ∈ fp j, ∀ u, H a = some u → H' a = some u) (m : Same G G') (g : ∀ j, j ≠ i → ∀ a ∈ fp j, G a = none → G' a = none) (hf : ∀ j, j ≠ i → ∀ a ∈ f, a ∉ fp j) (hn : ∀ a ∈ f, B.h a = none) :
    Fps K B (E.set i s) τ H' G' (fpSet fp i f) := by
  refine ⟨fun j t e => ?_, fun j hj => ?_, fun j l hjl a ha hb => ?_, fun j a ha => ?_⟩
  · by_cases q : j = i
    · subst q
      rw [List.getElem?_set_self hi] at e
      cases e
      rw [fpSet_same, hτ]
      exact hs
    · rw [List.getElem?_set_ne (Ne.symm q)] at e
      rw [fpSet_ne q, ho j q]
      exact (F.ok j t e).to (k j q) m (g j q)
  · rw [List.length_set] at hj
    rw [fpSet_ne (by omega)]
    exact F.out j hj
  · by_cases q : j = i
    · subst q
      rw [fpSet_same] at ha
      rw [fpSet_ne (Ne.symm hjl)] at hb
      exact hf l (Ne.symm hjl) a ha hb
    · rw [fpSet_ne q] at ha
      by_cases r : l = i
      · subst r
        rw [fpSet_same] at hb
        exact hf j q a hb ha
      · rw [fpSet_ne r] at hb
        exact F.dj j l hjl a ha hb
  · by_cases q : j = i
    · subst q
      rw [fpSet_same] at ha
      exact hn a ha
    · rw [fpSet_ne q] at ha
      exact F.nw j a ha
theorem set_big {α : Type} {l : List α} {i : Nat} {x : α} (h : ¬ i < l.length) : l.set i x = l := List.set_eq_of_length_le (Nat.le_of_not_lt h)
/-- a name is given frozen data -/
theorem SI.setC (I : SI K B G0 E σ H G) {i : Nat} {v : V} {d : PyData} (h : Dp K G v d) : SI K B G0 (E.set i (.cl d)) (σ.set i (some v)) H G := by
  by_cases hi : i < E.length
  · obtain ⟨fp, F⟩ := I.v
    exact ⟨by rw [List.length_set, List.length_set]; exact I.len, I.e, _, F.put hi (o := some v) (f := []) (List.getElem?_set_self (by rw [I.len]; exact hi)) (fun j hj => List.getElem?_set_ne (Ne.symm hj)) ⟨rfl, v, rfl, h⟩ (fun _ _ _ _ _ q => q) (.refl G) (fun _ _ _ _ q => q) (fun _ _ a ha => by cases ha) (fun a ha => by cases ha)⟩
  · rw [set_big hi, set_big (by rw [I.len]; exact hi)]
    exact I
/-- a name is given a tree, all of whose objects are new -/
theorem SI.setT (I : SI K B G0 E σ H G) (x : Ext H G H' G') {i : Nat} {v : V} {t : OT} {fp : List Addr} (h : Ow K H' G' v t fp) (hn : ∀ a ∈ fp, H a = none) : SI K B G0 (E.set i (.tr none t)) (σ.set i (some v)) H' G' := by
  have I2 := I.ext x
  by_cases hi : i < E.length
  · obtain ⟨fq, F⟩ := I.v
    have F2 := F.ext x
    exact ⟨by rw [List.length_set, List.length_set]; exact I.len, I2.e, _, F2.put hi (o := some v) (f := fp) (List.getElem?_set_self (by rw [I.len]; exact hi)) (fun j hj => List.getElem?_set_ne (Ne.symm hj)) ⟨v, rfl, (fun j q => nomatch q), h⟩ (fun _ _ _ _ _ q => q) (.refl G') (fun _ _ _ _ q => q) (fun j _ a ha => F.new (hn a ha) j) (fun a ha => I.e.h.free (hn a ha))⟩
  · rw [set_big hi, set_big (by rw [I.len]; exact hi)]
    exact I2
/-- a name is given a new list of one's own -/
theorem SI.setO (I : SI K B G0 E σ H G) (x : Ext H G H' G') {i : Nat} {p : Addr} {xs : List V} {ds : List PyData} (hp : H p = none) (h1 : H' p = some (.lst xs)) (h2 : G' p = none) (h4 : DpAll K G' xs ds) : SI K B G0 (E.set i (.ow ds)) (σ.set i (some (.ref p))) H' G' := by
  have I2 := I.ext x
  by_cases hi : i < E.length
  · obtain ⟨fq, F⟩ := I.v
    have F2 := F.ext x
    exact ⟨by rw [List.length_set, List.length_set]; exact I.len, I2.e, _, F2.put hi (o := some (.ref p)) (f := [p]) (List.getElem?_set_self (by rw [I.len]; exact hi)) (fun j hj => List.getElem?_set_ne (Ne.symm hj)) ⟨p, xs, rfl, rfl, h1, h2, h4⟩ (fun _ _ _ _ _ q => q) (.refl G') (fun _ _ _ _ q => q) (fun j _ a ha => by
      rw [List.mem_singleton.mp ha]
      exact F.new hp j) (fun a ha => by
      rw [List.mem_singleton.mp ha]
      exact I.e.h.free hp)⟩
  · rw [set_big hi, set_big (by rw [I.len]; exact hi)]
    exact I2
/-- a name is forgotten -/
theorem Fps.wipe1 {fp : Nat → List Addr} (F : Fps K B E σ H G fp) {i : Nat} {o : Option V} (hl : σ.length = E.length) : Fps K B (E.set i .un) (σ.set i o) H G (fpSet fp i []) := by
  by_cases hi : i < E.length
  · exact F.put hi (o := o) (f := []) (List.getElem?_set_self (by rw [hl]; exact hi)) (fun j hj => List.getElem?_set_ne (Ne.symm hj)) rfl (fun _ _ _ _ _ q => q) (.refl G) (fun _ _ _ _ q => q) (fun _ _ a ha => by cases ha) (fun a ha => by cases ha)
  · rw [set_big hi, set_big (by rw [hl]; exact hi)]
    have e : fpSet fp i [] = fp := by
      funext j
      by_cases q : j = i
      · subst q
        rw [fpSet_same, F.out j (Nat.le_of_not_lt hi)]
      · rw [fpSet_ne q]
    rw [e]
    exact F
theorem SI.wipe1 (I : SI K B G0 E σ H G) {i : Nat} {o : Option V} : SI K B G0 (E.set i .un) (σ.set i o) H G := by
  obtain ⟨fp, F⟩ := I.v
  exact ⟨by rw [List.length_set, List.length_set]; exact I.len, I.e, _, F.wipe1 I.len⟩
/-- the heap in which a name's objects are frozen -/
theorem frz_ext (e : Ext B.h G0 H G) {fp : List Addr} (hf : ∀ a ∈ fp, ∃ u, H a = some u ∧ Mut (some u) ∧ G a = none) (hn : ∀ a ∈ fp, B.h a = none) : Ext B.h G0 H (frzA H G fp) ∧ Same G (frzA H G fp) := by
  have sm : Same G (frzA H G fp) := fun a o q => by
    rw [frzA_out fun ha => by
      obtain ⟨_, _, _, g⟩ := hf a ha
      rw [g] at q
      cases q]
    exact q
  refine ⟨⟨e.h, e.g.trans sm, fun a o q => ?_, fun a o h m g => ?_⟩, sm⟩
  · by_cases ha : a ∈ fp
    · rw [frzA_in ha] at q
      exact q
    · rw [frzA_out ha] at q
      exact e.s a o q
  · rw [frzA_out fun ha => by
      rw [hn a ha] at h
      cases h]
    exact e.n a o h m g
/-- what is one's own is frozen for good -/
theorem SI.freezeS (I : SI K B G0 E σ H G) {i : Nat} {s : Sl} {d : PyData} (h : E[i]? = some s) (hd : ∀ fp, SlOk K B H G σ[i]? fp s → Same G (frzA H G fp) → ∃ v, σ[i]? = some (some v) ∧ Dp K (frzA H G fp) v d) : ∃ G', SI K B G0 (E.set i (.cl d)) σ H G' ∧ Same G G' := by
  obtain ⟨fp, F⟩ := I.v
  have hi : i < E.length := (List.getElem?_eq_some_iff.mp h).1
  obtain ⟨x, sm⟩ := frz_ext I.e (fun a ha => F.at' (i := i) ha) (F.nw i)
  obtain ⟨v, hv, hdp⟩ := hd (fp i) (F.ok i _ h) sm
  refine ⟨frzA H G (fp i), ⟨by rw [List.length_set]; exact I.len, x, _, F.put hi (o := some v) (f := []) hv (fun j _ => rfl) ⟨rfl, v, rfl, hdp⟩ (fun _ _ _ _ _ q => q) sm (fun j hj a ha q => ?_) (fun _ _ a ha => by cases ha) (fun a ha => by cases ha)⟩, sm⟩
  rw [frzA_out (F.dj j i hj a ha)]
  exact q
theorem SI.freeze (I : SI K B G0 E σ H G) {i : Nat} {ds : List PyData} (h : E[i]? = some (.ow ds)) : ∃ G', SI K B G0 (E.set i (.cl (.list ds))) σ H G' ∧ Same G G' := I.freezeS h fun fp hs sm => by
  obtain ⟨p, xs, e, a, b, c, f⟩ := hs
  subst e
  exact ⟨.ref p, a, .lst (.inl (.inl (by rw [frzA_in (List.mem_singleton.mpr rfl)]; exact b))) (f.mo sm)⟩
theorem SI.freezeT (I : SI K B G0 E σ H G) {i : Nat} {t : OT} (h : E[i]? = some (.tr none t)) : ∃ G', SI K B G0 (E.set i (.cl t.dat)) σ H G' ∧ Same G G' := I.freezeS h fun fp hs sm => by
  obtain ⟨v, a, _, c⟩ := hs
  exact ⟨v, a, c.frozen fp (fun _ q => q) sm⟩
/-- what is one's own is changed: the name's tree, its objects, the heap at one of them -/
theorem SI.chgT (I : SI K B G0 E σ H G) {i : Nat} {k : Option Nat} {t t' : OT} {p : Addr} {o : HO} (h : E[i]? = some (.tr k t)) (hw : ∀ v fp, σ[i]? = some (some v) → Ow K H G v t fp → (∀ a ∈ fp, B.h a = none) → p ∈ fp ∧ ∃ fq, Ow K (upd H p o) G v t' fq ∧ ∀ a ∈ fq, a ∈ fp) :
    SI K B G0 (E.set i (.tr k t')) σ (upd H p o) G := by
  obtain ⟨fp, F⟩ := I.v
  have hi : i < E.length := (List.getElem?_eq_some_iff.mp h).1
  obtain ⟨v, h1, h2, h3⟩ := F.ok i _ h
  obtain ⟨hp, fq, w, sub⟩ := hw v (fp i) h1 h3 (F.nw i)
  obtain ⟨u, g1, _, g3⟩ := F.at' hp
  refine ⟨by rw [List.length_set]; exact I.len, I.e.chg (F.nw i p hp) g3, _, F.put hi (o := some v) (f := fq) h1 (fun j _ => rfl) ⟨v, rfl, h2, w⟩ (fun j hj a ha u q => ?_) (.refl G) (fun _ _ _ _ q => q) (fun j hj a ha => F.dj i j (Ne.symm hj) a (sub a ha)) (fun a ha => F.nw i a (sub a ha))⟩
  rw [upd_ne fun z => by
    subst z
    exact F.dj j i hj a ha hp]
  exact q
/-- a list of one's own is changed -/
theorem SI.chg (I : SI K B G0 E σ H G) {i : Nat} {p : Addr} {ds es : List PyData} {ys : List V} (h : E[i]? = some (.ow ds)) (hs : σ[i]? = some (some (.ref p))) (hy : DpAll K G ys es) :
    SI K B G0 (E.set i (.ow es)) σ (upd H p (.lst ys)) G := by
  obtain ⟨fp, F⟩ := I.v
  have hi : i < E.length := (List.getElem?_eq_some_iff.mp h).1
  obtain ⟨p', xs, e, a, b, c, f⟩ := F.ok i _ h
  rw [hs] at a
  cases a
  have hm : p ∈ fp i := by
    rw [e]
    exact List.mem_singleton.mpr rfl
  refine ⟨by rw [List.length_set]; exact I.len, I.e.chg (F.nw i p hm) c, _, F.put hi (o := some (.ref p)) (f := [p]) hs (fun j _ => rfl) ⟨p, ys, rfl, rfl, upd_same, c, hy⟩ (fun j hj a ha u q => ?_) (.refl G) (fun _ _ _ _ q => q) (fun j hj a ha => ?_) (fun a ha => ?_)⟩
  · rw [upd_ne fun z => by
      subst z
      exact F.dj j i hj a ha hm]
    exact q
  · rw [List.mem_singleton.mp ha]
    exact F.dj i j (Ne.symm hj) p hm
  · rw [List.mem_singleton.mp ha]
    exact F.nw i p hm
/-- an address that is no name's is changed (a comprehension's list) -/
theorem Fps.chgN {fp : Nat → List Addr} (F : Fps K B E σ H G fp) {p : Addr} {o : HO} (hn : ∀ j, p ∉ fp j) : Fps K B E σ (upd H p o) G fp := ⟨fun j s e => (F.ok j s e).to (fun a ha u q => by
  rw [upd_ne fun z => by
    subst z
    exact hn j ha]
  exact q) (.refl G) fun _ _ q => q, F.out, F.dj, F.nw⟩
end

/-- semi-frozen: frozen, or a list whose items are -/
def Sm (K : PySem.W.Frag) (H G : Hp) (v : V) (d : PyData) : Prop :=
  Dp K G v d ∨ ∃ p xs ds, v = .ref p ∧ d = .list ds ∧ H p = some (.lst xs) ∧ DpAll K G xs ds
theorem Sm.dp {K : PySem.W.Frag} {H G : Hp} {v : V} {d : PyData} (s : Same G H) (h : Sm K H G v d) : Dp K H v d := by
  rcases h with h | ⟨p, xs, ds, rfl, rfl, h1, h2⟩
  · exact h.mo s
  · exact .lst (.inl (.inl h1)) (h2.mo s)
theorem Sm.ext {K : PySem.W.Frag} {H G H' G' : Hp} {v : V} {d : PyData} (h : Sm K H G v d) (e : Ext H G H' G') : Sm K H' G' v d := by
  rcases h with h | ⟨p, xs, ds, rfl, rfl, h1, h2⟩
  · exact .inl (h.mo e.g)
  · exact .inr ⟨p, xs, ds, rfl, rfl, e.h _ _ h1, h2.mo e.g⟩
/-- a list, semi-frozen -/
theorem Sm.list {K : PySem.W.Frag} {H G : Hp} {v : V} {ds : List PyData} (s : Same G H) (h : Sm K H G v (.list ds)) : ∃ p xs, v = .ref p ∧ SqL K H p xs ∧ DpAll K G xs ds := by
  rcases h with h | ⟨p, xs, ds', rfl, e, h1, h2⟩
  · cases h with
    | lst hs ha => exact ⟨_, _, rfl, s.seq hs, ha⟩
  · cases e
    exact ⟨p, xs, rfl, .inl (.inl h1), h2⟩
theorem Sm.tuple {K : PySem.W.Frag} {H G : Hp} {v : V} {ds : List PyData} (s : Same G H) (h : Sm K H G v (.tuple ds)) : ∃ p xs, v = .ref p ∧ SqT K H p xs ∧ DpAll K G xs ds := by
  rcases h with h | ⟨p, xs, ds', rfl, e, h1, h2⟩
  · cases h with
    | tup hs ha => exact ⟨_, _, rfl, Same.seqT s hs, ha⟩
  · cases e
theorem Sm.int {K : PySem.W.Frag} {H G : Hp} {v : V} {i : Int} (h : Sm K H G v (.int i)) : v = .int i := by
  rcases h with h | ⟨p, xs, ds', rfl, e, h1, h2⟩
  · cases h
    rfl
  · cases e
theorem Sm.bool {K : PySem.W.Frag} {H G : Hp} {v : V} {i : Bool} (h : Sm K H G v (.bool i)) : v = .bl i := by
  rcases h with h | ⟨p, xs, ds', rfl, e, h1, h2⟩
  · cases h
    rfl
  · cases e
theorem Sm.str {K : PySem.W.Frag} {H G : Hp} {v : V} {i : Str} (h : Sm K H G v (.str i)) : v = .str i := by
  rcases h with h | ⟨p, xs, ds', rfl, e, h1, h2⟩
  · cases h
    rfl
  · cases e
theorem Sm.none {K : PySem.W.Frag} {H G : Hp} {v : V} (h : Sm K H G v .none) : v = .non := by
  rcases h with h | ⟨p, xs, ds', rfl, e, h1, h2⟩
  · cases h
    rfl
  · cases e
theorem Sm.dict {K : PySem.W.Frag} {H G : Hp} {v : V} {kvs : List (PyData × PyData)} (h : Sm K H G v (.dict kvs)) : Dp K G v (.dict kvs) := by
  rcases h with h | ⟨p, xs, ds', rfl, e, h1, h2⟩
  · exact h
  · cases e

/-! ### judgements -/
def best (X : Cx) (e : Expr) : TE := fun σ H Q => ∃ t, PE X e t ∧ t σ H Q
theorem best_pe (X : Cx) (e : Expr) : PE X e (best X e) := ⟨fun pins s σ H Q I ⟨_, p, h⟩ => p.run pins s σ H Q I h⟩
theorem PE.b {X : Cx} {e : Expr} {t : TE} {σ : SS} {H : Hp} {Q : VK} (p : PE X e t) (h : t σ H Q) : best X e σ H Q := ⟨t, p, h⟩
def bestT (X : Cx) (e : Expr) : TT := fun σ H Q => ∃ t, PT X e t ∧ t σ H Q
theorem bestT_pt (X : Cx) (e : Expr) : PT X e (bestT X e) := ⟨fun pins s σ H Q I ⟨_, p, h⟩ => p.run pins s σ H Q I h⟩
def bestW (X : Cx) (e : Expr) : TT := fun σ H Q => ∃ t, PW X e t ∧ t σ H Q
theorem bestW_pw (X : Cx) (e : Expr) : PW X e (bestW X e) := ⟨fun w pins s σ H Q I ⟨_, p, h⟩ => p.run w pins s σ H Q I h⟩
def bestA (X : Cx) (es : List Expr) : TA := fun σ H Q => ∃ t, PA X es t ∧ t σ H Q
theorem bestA_pa (X : Cx) (e : List Expr) : PA X e (bestA X e) := ⟨fun pos pins s σ H Q I ⟨_, p, h⟩ => p.run pos pins s σ H Q I h⟩
def bestS (X : Cx) (st : Stmt) : TS := fun D σ H => ∃ t, PS X st t ∧ t D σ H
theorem bestS_ps (X : Cx) (st : Stmt) : PS X st (bestS X st) := ⟨fun pins s σ H D I ⟨_, p, h⟩ => p.run pins s σ H D I h⟩
def bestSs (X : Cx) (st : List Stmt) : TS := fun D σ H => ∃ t, PSs X st t ∧ t D σ H
theorem bestSs_ps (X : Cx) (st : List Stmt) : PSs X st (bestSs X st) := ⟨fun pins s σ H D I ⟨_, p, h⟩ => p.run pins s σ H D I h⟩
def bestI (X : Cx) (tg iter : Expr) : TI := fun σ H R => ∃ t, PI X tg iter t ∧ t σ H R
theorem bestI_pi (X : Cx) (tg iter : Expr) : PI X tg iter (bestI X tg iter) := ⟨fun pins s σ H R I ⟨_, p, h⟩ => p.run pins s σ H R I h⟩

/-- an expression that gives frozen data -/
structure DE (X : Cx) (e : Expr) (t : En → Option PyData) : Prop where
  run : ∀ (B : Bs) (G0 : Hp) (E : En) (σ : SS) (H G : Hp) (d : PyData) (Q : VK), SI X.K B G0 E σ H G → t E = some d → (∀ v H' G', Ext H G H' G' → Dp X.K G' v d → Q v H') → best X e σ H Q
/-- semi-frozen data -/
structure DS (X : Cx) (e : Expr) (t : En → Option PyData) : Prop where
  run : ∀ (B : Bs) (G0 : Hp) (E : En) (σ : SS) (H G : Hp) (d : PyData) (Q : VK), SI X.K B G0 E σ H G → t E = some d → (∀ v H' G', Ext H G H' G' → Sm X.K H' G' v d → Q v H') → best X e σ H Q
/-- a new list -/
structure DF (X : Cx) (e : Expr) (t : En → Option (List PyData)) : Prop where
  run : ∀ (B : Bs) (G0 : Hp) (E : En) (σ : SS) (H G : Hp) (ds : List PyData) (Q : VK), SI X.K B G0 E σ H G → t E = some ds →
    (∀ p xs H' G', Ext H G H' G' → H p = none → H' p = some (.lst xs) → G' p = none → DpAll X.K G' xs ds → Q (.ref p) H') → best X e σ H Q
structure DT (X : Cx) (e : Expr) (t : En → Option Bool) : Prop where
  run : ∀ (B : Bs) (G0 : Hp) (E : En) (σ : SS) (H G : Hp) (b : Bool) (Q : Bool → Hp → Prop), SI X.K B G0 E σ H G → t E = some b → (∀ H' G', Ext H G H' G' → Q b H') → bestT X e σ H Q
structure DW (X : Cx) (e : Expr) (t : En → Option Bool) : Prop where
  run : ∀ (B : Bs) (G0 : Hp) (E : En) (σ : SS) (H G : Hp) (b : Bool) (Q : Bool → Hp → Prop), SI X.K B G0 E σ H G → t E = some b → (∀ H' G', Ext H G H' G' → Q b H') → bestW X e σ H Q
/-- arguments: all frozen; all semi-frozen -/
inductive SmAll (K : PySem.W.Frag) (H G : Hp) : List V → List PyData → Prop
  | nil : SmAll K H G [] []
  | cons {v vs d ds} : Sm K H G v d → SmAll K H G vs ds → SmAll K H G (v :: vs) (d :: ds)
structure DA (X : Cx) (es : List Expr) (t : En → Option (List PyData)) : Prop where
  len : ∀ E ds, t E = some ds → ds.length = es.length
  run : ∀ (B : Bs) (G0 : Hp) (E : En) (σ : SS) (H G : Hp) (ds : List PyData) (Q : List V → Hp → Prop), SI X.K B G0 E σ H G → t E = some ds → (∀ vs H' G', Ext H G H' G' → DpAll X.K G' vs ds → Q vs H') → bestA X es σ H Q
structure DAs (X : Cx) (es : List Expr) (t : En → Option (List PyData)) : Prop where
  run : ∀ (B : Bs) (G0 : Hp) (E : En) (σ : SS) (H G : Hp) (ds : List PyData) (Q : List V → Hp → Prop), SI X.K B G0 E σ H G → t E = some ds → (∀ vs H' G', Ext H G H' G' → SmAll X.K H' G' vs ds → Q vs H') → bestA X es σ H Q
theorem SmAll.ext {K : PySem.W.Frag} {H G H' G' : Hp} (e : Ext H G H' G') : ∀ {vs : List V} {ds : List PyData}, SmAll K H G vs ds → SmAll K H' G' vs ds
  | _, _, .nil => .nil
  | _, _, .cons h t => .cons (h.ext e) (SmAll.ext e t)
section
variable {X : Cx} {ex : Expr} {t : En → Option PyData}
theorem DE.s (h : DE X ex t) : DS X ex t := ⟨fun B G0 E σ H G d Q I ht q => h.run B G0 E σ H G d Q I ht fun v H' G' x y => q v H' G' x (.inl y)⟩
def eL (t : En → Option (List PyData)) (E : En) : Option PyData := (t E).map .list
theorem DF.e {t : En → Option (List PyData)} (h : DF X ex t) : DE X ex (eL t) := ⟨fun B G0 E σ H G d Q I ht q => by
  unfold eL at ht
  cases et : t E with
  | none => rw [et] at ht; cases ht
  | some ds =>
    rw [et] at ht
    cases ht
    refine h.run B G0 E σ H G ds Q I et fun p xs H' G' x hp hp' gp hd => ?_
    exact q _ H' (upd G' p (.lst xs)) (x.frz hp hp' gp) (.lst (.inl (.inl upd_same)) (hd.mo (same_upd gp)))⟩
theorem DF.s {t : En → Option (List PyData)} (h : DF X ex t) : DS X ex (eL t) := h.e.s
end

/-! ### names, constants -/
section
variable {X : Cx}
def eV (i : Nat) (E : En) : Option PyData := match E[i]? with
  | some (.cl d) => some d
  | some (.ow ds) => some (.list ds)
  | _ => none
/-- a name that holds frozen data -/
def eC (i : Nat) (E : En) : Option PyData := match E[i]? with
  | some (.cl d) => some d
  | _ => none
def eK (d : PyData) (_E : En) : Option PyData := some d
theorem dv (i : Nat) {x : Str} {pos : Pos} (hN : X.N[i]? = some x := by rfl) (hv : Vis X.env.scope x := by first | exact Or.inl rfl | exact Or.inr (Or.inl rfl) | exact Or.inr (Or.inr rfl)) (hd : (x == ("__debug__" : Str)) = false := by decide)
    (hcd : (x == ("__classdict__" : Str)) = false := by decide) : DS X (.Name x pos) (eV i) := ⟨fun B G0 E σ H G d Q I ht q => by
  refine PE.b (pe_var hN hv hd hcd) ?_
  unfold eV at ht
  split at ht
  · rename_i d' he
    cases ht
    obtain ⟨v, a, b⟩ := I.clv he
    exact ⟨v, a, q v H G (.refl I.s) (.inl b)⟩
  · rename_i ds he
    cases ht
    obtain ⟨p, xs, a, b, c, d', f⟩ := I.owv he
    exact ⟨_, a, q _ H G (.refl I.s) (.inr ⟨p, xs, ds, rfl, rfl, b, f⟩)⟩
  · cases ht⟩
theorem dc (i : Nat) {x : Str} {pos : Pos} (hN : X.N[i]? = some x := by rfl) (hv : Vis X.env.scope x := by first | exact Or.inl rfl | exact Or.inr (Or.inl rfl) | exact Or.inr (Or.inr rfl)) (hd : (x == ("__debug__" : Str)) = false := by decide)
    (hcd : (x == ("__classdict__" : Str)) = false := by decide) : DE X (.Name x pos) (eC i) := ⟨fun B G0 E σ H G d Q I ht q => by
  refine PE.b (pe_var hN hv hd hcd) ?_
  unfold eC at ht
  split at ht
  · rename_i d' he
    cases ht
    obtain ⟨v, a, b⟩ := I.clv he
    exact ⟨v, a, q v H G (.refl I.s) b⟩
  · cases ht⟩
theorem dint {i j pos} : DE X (.Constant (.int i) j pos) (eK (.int i)) := ⟨fun B G0 E σ H G d Q I ht q => by
  cases ht
  exact PE.b pe_int (q _ H G (.refl I.s) (.int i))⟩
theorem dbool {b j pos} : DE X (.Constant (.bool b) j pos) (eK (.bool b)) := ⟨fun B G0 E σ H G d Q I ht q => by
  cases ht
  exact PE.b pe_bl (q _ H G (.refl I.s) (.bl b))⟩
theorem dnone {j pos} : DE X (.Constant .none j pos) (eK .none) := ⟨fun B G0 E σ H G d Q I ht q => by
  cases ht
  exact PE.b pe_non (q _ H G (.refl I.s) .non)⟩
theorem dstr {x j pos} : DE X (.Constant (.str x) j pos) (eK (.str x)) := ⟨fun B G0 E σ H G d Q I ht q => by
  cases ht
  exact PE.b pe_str (q _ H G (.refl I.s) (.str x))⟩
/-- a constant of the module -/
theorem dglob {x : Str} {v : V} {u : Value} {d : PyData} {pos : Pos} (hg : Gl X x) (hm : X.mg x = some u) (r : RelV v u) (hd : ∀ G, Dp X.K G v d) (hdb : (x == ("__debug__" : Str)) = false := by decide) : DE X (.Name x pos) (eK d) := ⟨fun B G0 E σ H G d' Q I ht q => by
  cases ht
  exact PE.b (pe_glob hg hm r hdb) (q _ H G (.refl I.s) (hd G))⟩

/-! ### argument lists -/
def aN (_E : En) : Option (List PyData) := some []
def aC (t : En → Option PyData) (r : En → Option (List PyData)) (E : En) : Option (List PyData) := (t E).bind fun d => (r E).bind fun ds => some (d :: ds)
theorem da_nil : DA X [] aN := ⟨fun E ds h => by cases h; rfl, fun B G0 E σ H G d Q I ht q => by
  cases ht
  exact ⟨_, pa_nil, q [] H G (.refl I.s) .nil⟩⟩
theorem das_nil : DAs X [] aN := ⟨fun B G0 E σ H G d Q I ht q => by
  cases ht
  exact ⟨_, pa_nil, q [] H G (.refl I.s) .nil⟩⟩
theorem aC_some {t : En → Option PyData} {r : En → Option (List PyData)} {E : En} {ds : List PyData} (h : aC t r E = some ds) : ∃ d es, t E = some d ∧ r E = some es ∧ ds = d :: es := by
  unfold aC at h
  cases et : t E with
  | none => rw [et] at h; cases h
  | some d =>
    rw [et] at h
    cases er : r E with
    | none => rw [er] at h; cases h
    | some es =>
      rw [er] at h
      cases h
      exact ⟨d, es, rfl, rfl, rfl⟩
theorem da_cons {e : Expr} {es : List Expr} {t : En → Option PyData} {r : En → Option (List PyData)} (h : DE X e t) (hr : DA X es r) (hs : starEach (e :: es) X.env = (false, eval e X.env) :: starEach es X.env := by rfl) : DA X (e :: es) (aC t r) := ⟨fun E ds ht => by
  obtain ⟨x, xs, e1, e2, rfl⟩ := aC_some ht
  rw [List.length_cons, List.length_cons, hr.len E xs e2], fun B G0 E σ H G d Q I ht q => by
  obtain ⟨x, xs, e1, e2, rfl⟩ := aC_some ht
  refine ⟨_, pa_cons (best_pe X e) (bestA_pa X es) hs, ?_⟩
  refine h.run B G0 E σ H G x _ I e1 fun v H1 G1 x1 d1 => ?_
  refine hr.run B G0 E σ H1 G1 xs _ (I.ext x1) e2 fun vs H2 G2 x2 d2 => ?_
  exact q _ H2 G2 (x1.trans x2) (.cons (d1.mo x2.g) d2)⟩
theorem das_cons {e : Expr} {es : List Expr} {t : En → Option PyData} {r : En → Option (List PyData)} (h : DS X e t) (hr : DAs X es r) (hs : starEach (e :: es) X.env = (false, eval e X.env) :: starEach es X.env := by rfl) : DAs X (e :: es) (aC t r) := ⟨fun B G0 E σ H G d Q I ht q => by
  obtain ⟨x, xs, e1, e2, rfl⟩ := aC_some ht
  refine ⟨_, pa_cons (best_pe X e) (bestA_pa X es) hs, ?_⟩
  refine h.run B G0 E σ H G x _ I e1 fun v H1 G1 x1 d1 => ?_
  refine hr.run B G0 E σ H1 G1 xs _ (I.ext x1) e2 fun vs H2 G2 x2 d2 => ?_
  exact q _ H2 G2 (x1.trans x2) (.cons (d1.ext x2) d2)⟩

/-! ### tuples, lists -/
/-- a length that fits -/
def szB (n : Nat) : Bool := decide (n ≤ sizeLine)
def szS (n : Nat) : Bool := decide (n < sizeLine)
theorem szB_le {n : Nat} (h : szB n = true) : n ≤ sizeLine := of_decide_eq_true h
theorem szS_lt {n : Nat} (h : szS n = true) : n < sizeLine := of_decide_eq_true h
theorem szB_of {n : Nat} (h : n ≤ 1000000) : szB n = true := decide_eq_true (by rw [sizeLine_eq]; omega)
theorem szS_of {n : Nat} (h : n ≤ 1000000) : szS n = true := decide_eq_true (by rw [sizeLine_eq]; omega)
/-- a tuple, a list, a text of a size that fits -/
def chkT (ds : List PyData) : Option PyData := if szB ds.length then some (.tuple ds) else none
def chkL (ds : List PyData) : Option (List PyData) := if szB ds.length then some ds else none
def chkS (x : Str) : Option PyData := if szB x.length then some (.str x) else none
theorem chkT_of {ds : List PyData} (h : ds.length ≤ 1000000) : chkT ds = some (.tuple ds) := if_pos (szB_of h)
theorem chkL_of {ds : List PyData} (h : ds.length ≤ 1000000) : chkL ds = some ds := if_pos (szB_of h)
theorem chkS_of {x : Str} (h : x.length ≤ 1000000) : chkS x = some (.str x) := if_pos (szB_of h)
theorem chkT_some {ds : List PyData} {d : PyData} (h : chkT ds = some d) : ds.length ≤ sizeLine ∧ d = .tuple ds := by
  unfold chkT at h
  split at h
  · rename_i hs; cases h; exact ⟨szB_le hs, rfl⟩
  · cases h
theorem chkL_some {ds d : List PyData} (h : chkL ds = some d) : ds.length ≤ sizeLine ∧ d = ds := by
  unfold chkL at h
  split at h
  · rename_i hs; cases h; exact ⟨szB_le hs, rfl⟩
  · cases h
theorem chkS_some {x : Str} {d : PyData} (h : chkS x = some d) : x.length ≤ sizeLine ∧ d = .str x := by
  unfold chkS at h
  split at h
  · rename_i hs; cases h; exact ⟨szB_le hs, rfl⟩
  · cases h
def eTup (r : En → Option (List PyData)) (E : En) : Option PyData := (r E).bind chkT
def eLst (r : En → Option (List PyData)) (E : En) : Option (List PyData) := (r E).bind chkL
theorem dtup {es x1 pos} {r : En → Option (List PyData)} (h : DA X es r) : DE X (.Tuple es x1 pos) (eTup r) := ⟨fun B G0 E σ H G d Q I ht q => by
  unfold eTup at ht
  cases er : r E with
  | none => rw [er] at ht; cases ht
  | some ds =>
    rw [er] at ht
    obtain ⟨hl, rfl⟩ := chkT_some (show chkT ds = some d from ht)
    refine PE.b (pe_tup (bestA_pa X es)) ?_
    refine h.run B G0 E σ H G ds _ I er fun vs H1 G1 x1 d1 => ⟨by rw [d1.length]; exact hl, fun p hp => ?_⟩
    exact q _ _ (upd G1 p (.tup vs)) (x1.trans (.new x1.s hp)) (.tup (.inl (.inl upd_same)) (d1.mo (same_upd (x1.s.free hp))))⟩
theorem dlst {es pos} {r : En → Option (List PyData)} (h : DA X es r) : DF X (.List es pos) (eLst r) := ⟨fun B G0 E σ H G d Q I ht q => by
  unfold eLst at ht
  cases er : r E with
  | none => rw [er] at ht; cases ht
  | some ds =>
    rw [er] at ht
    obtain ⟨hl, rfl⟩ := chkL_some (show chkL ds = some d from ht)
    refine PE.b (pe_lst (bestA_pa X es)) ?_
    refine h.run B G0 E σ H G d _ I er fun vs H1 G1 x1 d1 => ⟨by rw [d1.length]; exact hl, fun p hp => ?_⟩
    exact q p vs _ G1 (x1.trans (.newO x1.s hp)) (x1.h.free hp) upd_same (x1.s.free hp) d1⟩
end
end Pd

namespace Pd
open PySem PySem.Spec PyProof.Rows L2

/-! ### statements -/
inductive Ou where
  | nx (E : En)
  | rt (d : PyData)
  | bk (E : En)
  | ct (E : En)
  | ro (r : OT) (E : En)
def OkOu (K : PySem.W.Frag) (B : Bs) (G0 Gs : Hp) (D : Ends) : Ou → Prop
  | .nx E => ∀ σ H G, SI K B G0 E σ H G → Same Gs G → D.nx σ H
  | .bk E => ∀ σ H G, SI K B G0 E σ H G → Same Gs G → D.bk σ H
  | .ct E => ∀ σ H G, SI K B G0 E σ H G → Same Gs G → D.ct σ H
  | .rt d => ∀ v H G, Ext B.h G0 H G → Dp K G v d → D.rt v H
  | .ro r E => ∀ v σ H G, SI K B G0 (E ++ [.tr none r]) (σ ++ [some v]) H G → Same Gs G → D.rt v H
theorem OkOu.mono {K : PySem.W.Frag} {B : Bs} {G0 Gs Gt : Hp} {D : Ends} {o : Ou} (h : OkOu K B G0 Gs D o) (s : Same Gs Gt) : OkOu K B G0 Gt D o := by
  cases o with
  | nx E => exact fun σ H G I t => h σ H G I (s.trans t)
  | bk E => exact fun σ H G I t => h σ H G I (s.trans t)
  | ct E => exact fun σ H G I t => h σ H G I (s.trans t)
  | rt d => exact h
  | ro r E => exact fun v σ H G I t => h v σ H G I (s.trans t)
structure DSt (X : Cx) (st : Stmt) (t : En → Option Ou) : Prop where
  run : ∀ (B : Bs) (G0 : Hp) (E : En) (σ : SS) (H G : Hp) (o : Ou) (D : Ends), SI X.K B G0 E σ H G → t E = some o → OkOu X.K B G0 G D o → bestS X st D σ H
structure DSs (X : Cx) (st : List Stmt) (t : En → Option Ou) : Prop where
  run : ∀ (B : Bs) (G0 : Hp) (E : En) (σ : SS) (H G : Hp) (o : Ou) (D : Ends), SI X.K B G0 E σ H G → t E = some o → OkOu X.K B G0 G D o → bestSs X st D σ H
def sNil (E : En) : Option Ou := some (.nx E)
def sSeq (t u : En → Option Ou) (E : En) : Option Ou := (t E).bind fun o => match o with
  | .nx E' => u E'
  | o => some o
def sIf (c : En → Option Bool) (t u : En → Option Ou) (E : En) : Option Ou := (c E).bind fun b => if b then t E else u E
def sRet (t : En → Option PyData) (E : En) : Option Ou := (t E).bind fun d => some (.rt d)
def sRetN (_E : En) : Option Ou := some (.rt .none)
def sSet (i : Nat) (t : En → Option PyData) (E : En) : Option Ou := (t E).bind fun d => some (.nx (E.set i (.cl d)))
def sSetO (i : Nat) (t : En → Option (List PyData)) (E : En) : Option Ou := (t E).bind fun d => some (.nx (E.set i (.ow d)))
def frz (i : Nat) (E : En) : En := match E[i]? with
  | some (.ow ds) => E.set i (.cl (.list ds))
  | some (.tr none t) => E.set i (.cl t.dat)
  | _ => E
def sFrz (i : Nat) (t : En → Option Ou) (E : En) : Option Ou := t (frz i E)
section
variable {X : Cx} {st : Stmt} {rest : List Stmt} {t u : En → Option Ou} {pos : Pos}
theorem dss_nil : DSs X [] sNil := ⟨fun B G0 E σ H G o D I ht ok => by
  cases ht
  exact ⟨_, pss_nil, ok σ H G I (.refl G)⟩⟩
theorem dss_cons (h1 : DSt X st t) (h2 : DSs X rest u) : DSs X (st :: rest) (sSeq t u) := ⟨fun B G0 E σ H G o D I ht ok => by
  unfold sSeq at ht
  cases et : t E with
  | none => rw [et] at ht; cases ht
  | some o1 =>
    rw [et] at ht
    refine ⟨_, pss_cons (bestS_ps X st) (bestSs_ps X rest), ?_⟩
    refine h1.run B G0 E σ H G o1 { D with nx := bestSs X rest D } I et ?_
    cases o1 with
    | nx E' => exact fun σ' H' G' I' s => h2.run B G0 E' σ' H' G' o D I' ht (ok.mono s)
    | rt d => cases ht; exact ok
    | bk E' => cases ht; exact ok
    | ct E' => cases ht; exact ok
    | ro r E' => cases ht; exact ok⟩
theorem dss_one (h1 : DSt X st t) : DSs X [st] t := ⟨fun B G0 E σ H G o D I ht ok => ⟨_, pss_one (bestS_ps X st), h1.run B G0 E σ H G o D I ht ok⟩⟩
theorem dss_frz (i : Nat) {sts : List Stmt} (h : DSs X sts t) : DSs X sts (sFrz i t) := ⟨fun B G0 E σ H G o D I ht ok => by
  unfold sFrz frz at ht
  split at ht
  · rename_i ds e
    obtain ⟨G', I', s'⟩ := I.freeze e
    exact h.run B G0 _ σ H G' o D I' ht (ok.mono s')
  · rename_i t e
    obtain ⟨G', I', s'⟩ := I.freezeT e
    exact h.run B G0 _ σ H G' o D I' ht (ok.mono s')
  · exact h.run B G0 E σ H G o D I ht ok⟩
theorem ds_frz (i : Nat) (h : DSt X st t) : DSt X st (sFrz i t) := ⟨fun B G0 E σ H G o D I ht ok => by
  unfold sFrz frz at ht
  split at ht
  · rename_i ds e
    obtain ⟨G', I', s'⟩ := I.freeze e
    exact h.run B G0 _ σ H G' o D I' ht (ok.mono s')
  · rename_i t e
    obtain ⟨G', I', s'⟩ := I.freezeT e
    exact h.run B G0 _ σ H G' o D I' ht (ok.mono s')
  · exact h.run B G0 E σ H G o D I ht ok⟩
theorem ds_if {c : Expr} {a b : List Stmt} {tc : En → Option Bool} (hc : DT X c tc) (ha : DSs X a t) (hb : DSs X b u) : DSt X (.If c a b pos) (sIf tc t u) := ⟨fun B G0 E σ H G o D I ht ok => by
  unfold sIf at ht
  cases ec : tc E with
  | none => rw [ec] at ht; cases ht
  | some c1 =>
    rw [ec] at ht
    refine ⟨_, ps_if (bestT_pt X c) (bestSs_ps X a) (bestSs_ps X b), ?_⟩
    refine hc.run B G0 E σ H G c1 _ I ec fun H1 G1 x1 => ?_
    cases c1 with
    | true => exact iteT (ha.run B G0 E σ H1 G1 o D (I.ext x1) ht (ok.mono x1.g))
    | false => exact iteF (hb.run B G0 E σ H1 G1 o D (I.ext x1) ht (ok.mono x1.g))⟩
theorem ds_ret {e : Expr} {te : En → Option PyData} (he : DE X e te) : DSt X (.Return (some e) pos) (sRet te) := ⟨fun B G0 E σ H G o D I ht ok => by
  unfold sRet at ht
  cases et : te E with
  | none => rw [et] at ht; cases ht
  | some d =>
    rw [et] at ht
    cases ht
    exact ⟨_, ps_ret (best_pe X e), he.run B G0 E σ H G d _ I et fun v H1 G1 x1 d1 => ok v H1 G1 (I.e.trans x1) d1⟩⟩
theorem ds_retN : DSt X (.Return none pos) sRetN := ⟨fun B G0 E σ H G o D I ht ok => by
  cases ht
  exact ⟨_, ps_retN, ok .non H G I.e .non⟩⟩
theorem ds_pass : DSt X (.Pass pos) sNil := ⟨fun B G0 E σ H G o D I ht ok => by
  cases ht
  exact ⟨_, ps_pass, ok σ H G I (.refl G)⟩⟩
theorem ds_break : DSt X (.Break pos) (fun E => some (.bk E)) := ⟨fun B G0 E σ H G o D I ht ok => by
  cases ht
  exact ⟨_, ps_break, ok σ H G I (.refl G)⟩⟩
theorem ds_continue : DSt X (.Continue pos) (fun E => some (.ct E)) := ⟨fun B G0 E σ H G o D I ht ok => by
  cases ht
  exact ⟨_, ps_continue, ok σ H G I (.refl G)⟩⟩
theorem ds_doc {x j pos pos'} : DSt X (.Expr (.Constant (.str x) j pos) pos') sNil := ⟨fun B G0 E σ H G o D I ht ok => by
  cases ht
  exact ⟨_, ps_doc, ok σ H G I (.refl G)⟩⟩
/-- name = frozen data -/
theorem ds_set (i : Nat) {x : Str} {e : Expr} {te : En → Option PyData} {pos' : Pos} (hN : X.N.Nodup) (he : DE X e te) (hi : X.N[i]? = some x := by rfl) (hx : Loc X.env.scope x := by first | exact Or.inl rfl | exact Or.inr rfl) (hs : swapsWith e (some (.Name x pos')) pos.line X.env = pure false := by rfl)
    (hf : X.fn x = true ∨ X.env.scope.names.lookup x = some .local := by first | exact .inl rfl | exact .inr rfl) : DSt X (.Assign [.Name x pos'] e pos) (sSet i te) := ⟨fun B G0 E σ H G o D I ht ok => by
  unfold sSet at ht
  cases et : te E with
  | none => rw [et] at ht; cases ht
  | some d =>
    rw [et] at ht
    cases ht
    refine ⟨_, ps_set hN hi hx (best_pe X e) hs hf, ?_⟩
    exact he.run B G0 E σ H G d _ I et fun v H1 G1 x1 d1 => ok _ H1 G1 ((I.ext x1).setC d1) x1.g⟩
/-- name = a new list, one's own -/
theorem ds_setO (i : Nat) {x : Str} {e : Expr} {te : En → Option (List PyData)} {pos' : Pos} (hN : X.N.Nodup) (he : DF X e te) (hi : X.N[i]? = some x := by rfl) (hx : Loc X.env.scope x := by first | exact Or.inl rfl | exact Or.inr rfl) (hs : swapsWith e (some (.Name x pos')) pos.line X.env = pure false := by rfl)
    (hf : X.fn x = true ∨ X.env.scope.names.lookup x = some .local := by first | exact .inl rfl | exact .inr rfl) : DSt X (.Assign [.Name x pos'] e pos) (sSetO i te) := ⟨fun B G0 E σ H G o D I ht ok => by
  unfold sSetO at ht
  cases et : te E with
  | none => rw [et] at ht; cases ht
  | some d =>
    rw [et] at ht
    cases ht
    refine ⟨_, ps_set hN hi hx (best_pe X e) hs hf, ?_⟩
    exact he.run B G0 E σ H G d _ I et fun p xs H1 G1 x1 hp hp1 gp d1 => ok _ H1 G1 (I.setO x1 hp hp1 gp d1) x1.g⟩
end

/-! ### tests -/
def bOf : PyData → Option Bool
  | .bool b => some b
  | _ => none
def kB (t : En → Option PyData) (E : En) : Option Bool := (t E).bind bOf
def kNot (t : En → Option Bool) (E : En) : Option Bool := (t E).map (!·)
def kAnd (t u : En → Option Bool) (E : En) : Option Bool := (t E).bind fun b => if b then u E else some false
def kOr (t u : En → Option Bool) (E : En) : Option Bool := (t E).bind fun b => if b then some true else u E
def eNot (t : En → Option PyData) (E : En) : Option PyData := ((t E).bind bOf).bind fun b => some (.bool (!b))
def eAnd (t u : En → Option PyData) (E : En) : Option PyData := ((t E).bind bOf).bind fun b => if b then u E else some (.bool false)
def eOr (t u : En → Option PyData) (E : En) : Option PyData := ((t E).bind bOf).bind fun b => if b then some (.bool true) else u E
def eIfE (c : En → Option Bool) (t u : En → Option PyData) (E : En) : Option PyData := (c E).bind fun b => if b then t E else u E
theorem bOf_some {d : PyData} {b : Bool} (h : bOf d = some b) : d = .bool b := by
  cases d with
  | bool c => cases h; rfl
  | _ => cases h
section
variable {X : Cx} {a b : Expr} {rest : List Expr} {pos : Pos}
/-- an expression whose value is a bool -/
theorem dt_val {e : Expr} {t : En → Option PyData} (h : DS X e t) (he : ∀ whole, isTrue e X.env whole = (do let v ← whole; standAt e.pos; holding [v] (truthy v)) := by intro _; rfl) : DT X e (kB t) := ⟨fun B G0 E σ H G b Q I ht q => by
  unfold kB at ht
  cases et : t E with
  | none => rw [et] at ht; cases ht
  | some d =>
    rw [et] at ht
    obtain rfl := bOf_some (show bOf d = some b from ht)
    refine ⟨_, pt_val (best_pe X e) he, ?_⟩
    exact h.run B G0 E σ H G _ _ I et fun v H1 G1 x1 d1 => ⟨b, d1.bool, q H1 G1 x1⟩⟩
theorem dt_not {t : En → Option Bool} (h : DT X a t) : DT X (.UnaryOp .Not a pos) (kNot t) := ⟨fun B G0 E σ H G b Q I ht q => by
  unfold kNot at ht
  cases et : t E with
  | none => rw [et] at ht; cases ht
  | some d =>
    rw [et] at ht
    cases ht
    refine ⟨_, pt_not (bestT_pt X a), ?_⟩
    exact h.run B G0 E σ H G d _ I et q⟩
theorem dw_and1 {t : En → Option Bool} (h : DT X a t) : DW X (.BoolOp .And [a] pos) t := ⟨fun B G0 E σ H G b Q I ht q => ⟨_, pw_and1 (bestT_pt X a), h.run B G0 E σ H G b _ I ht q⟩⟩
theorem dw_or1 {t : En → Option Bool} (h : DT X a t) : DW X (.BoolOp .Or [a] pos) t := ⟨fun B G0 E σ H G b Q I ht q => ⟨_, pw_or1 (bestT_pt X a), h.run B G0 E σ H G b _ I ht q⟩⟩
theorem dw_and {t u : En → Option Bool} (h : DT X a t) (hr : DW X (.BoolOp .And (b :: rest) pos) u) : DW X (.BoolOp .And (a :: b :: rest) pos) (kAnd t u) := ⟨fun B G0 E σ H G c Q I ht q => by
  unfold kAnd at ht
  cases et : t E with
  | none => rw [et] at ht; cases ht
  | some d =>
    rw [et] at ht
    refine ⟨_, pw_and (bestT_pt X a) (bestW_pw X _), ?_⟩
    refine h.run B G0 E σ H G d _ I et fun H1 G1 x1 => ?_
    cases d with
    | true => exact iteT (hr.run B G0 E σ H1 G1 c Q (I.ext x1) ht fun H2 G2 x2 => q H2 G2 (x1.trans x2))
    | false =>
      cases ht
      exact iteF (q H1 G1 x1)⟩
theorem dw_or {t u : En → Option Bool} (h : DT X a t) (hr : DW X (.BoolOp .Or (b :: rest) pos) u) : DW X (.BoolOp .Or (a :: b :: rest) pos) (kOr t u) := ⟨fun B G0 E σ H G c Q I ht q => by
  unfold kOr at ht
  cases et : t E with
  | none => rw [et] at ht; cases ht
  | some d =>
    rw [et] at ht
    refine ⟨_, pw_or (bestT_pt X a) (bestW_pw X _), ?_⟩
    refine h.run B G0 E σ H G d _ I et fun H1 G1 x1 => ?_
    cases d with
    | false => exact iteF (hr.run B G0 E σ H1 G1 c Q (I.ext x1) ht fun H2 G2 x2 => q H2 G2 (x1.trans x2))
    | true =>
      cases ht
      exact iteT (q H1 G1 x1)⟩
theorem DW.t {e : Expr} {t : En → Option Bool} (h : DW X e t) : DT X e t := ⟨fun B G0 E σ H G c Q I ht q => ⟨_, (bestW_pw X e).pt, h.run B G0 E σ H G c Q I ht q⟩⟩
theorem de_not {t : En → Option PyData} (h : DS X a t) : DE X (.UnaryOp .Not a pos) (eNot t) := ⟨fun B G0 E σ H G d Q I ht q => by
  unfold eNot at ht
  cases et : t E with
  | none => rw [et] at ht; cases ht
  | some d1 =>
    rw [et] at ht
    cases eb : bOf d1 with
    | none => rw [show (Option.some d1).bind bOf = bOf d1 from rfl, eb] at ht; cases ht
    | some c =>
      rw [show (Option.some d1).bind bOf = bOf d1 from rfl, eb] at ht
      cases ht
      obtain rfl := bOf_some eb
      refine PE.b (pe_not (best_pe X a)) ?_
      exact h.run B G0 E σ H G _ _ I et fun v H1 G1 x1 d2 => ⟨c, d2.bool, q _ H1 G1 x1 (.bl _)⟩⟩
theorem de_one {op} {t : En → Option PyData} (h : DS X a t) : DS X (.BoolOp op [a] pos) t := ⟨fun B G0 E σ H G d Q I ht q => PE.b (pe_one (best_pe X a)) (h.run B G0 E σ H G d Q I ht q)⟩
theorem de_oneE {op} {t : En → Option PyData} (h : DE X a t) : DE X (.BoolOp op [a] pos) t := ⟨fun B G0 E σ H G d Q I ht q => PE.b (pe_one (best_pe X a)) (h.run B G0 E σ H G d Q I ht q)⟩
theorem de_and {t u : En → Option PyData} (h : DS X a t) (hr : DE X (.BoolOp .And (b :: rest) pos) u) : DE X (.BoolOp .And (a :: b :: rest) pos) (eAnd t u) := ⟨fun B G0 E σ H G d Q I ht q => by
  unfold eAnd at ht
  cases et : t E with
  | none => rw [et] at ht; cases ht
  | some d1 =>
    rw [et] at ht
    cases eb : bOf d1 with
    | none => rw [show (Option.some d1).bind bOf = bOf d1 from rfl, eb] at ht; cases ht
    | some c =>
      rw [show (Option.some d1).bind bOf = bOf d1 from rfl, eb] at ht
      obtain rfl := bOf_some eb
      refine PE.b (pe_and (best_pe X a) (best_pe X _)) ?_
      refine h.run B G0 E σ H G _ _ I et fun v H1 G1 x1 d2 => ⟨c, d2.bool, ?_⟩
      cases c with
      | true => exact iteT (hr.run B G0 E σ H1 G1 d Q (I.ext x1) ht fun v H2 G2 x2 => q v H2 G2 (x1.trans x2))
      | false =>
        cases ht
        exact iteF (q _ H1 G1 x1 (.bl false))⟩
theorem de_or {t u : En → Option PyData} (h : DS X a t) (hr : DE X (.BoolOp .Or (b :: rest) pos) u) : DE X (.BoolOp .Or (a :: b :: rest) pos) (eOr t u) := ⟨fun B G0 E σ H G d Q I ht q => by
  unfold eOr at ht
  cases et : t E with
  | none => rw [et] at ht; cases ht
  | some d1 =>
    rw [et] at ht
    cases eb : bOf d1 with
    | none => rw [show (Option.some d1).bind bOf = bOf d1 from rfl, eb] at ht; cases ht
    | some c =>
      rw [show (Option.some d1).bind bOf = bOf d1 from rfl, eb] at ht
      obtain rfl := bOf_some eb
      refine PE.b (pe_or (best_pe X a) (best_pe X _)) ?_
      refine h.run B G0 E σ H G _ _ I et fun v H1 G1 x1 d2 => ⟨c, d2.bool, ?_⟩
      cases c with
      | false => exact iteF (hr.run B G0 E σ H1 G1 d Q (I.ext x1) ht fun v H2 G2 x2 => q v H2 G2 (x1.trans x2))
      | true =>
        cases ht
        exact iteT (q _ H1 G1 x1 (.bl true))⟩
theorem de_if {c : Expr} {tc : En → Option Bool} {t u : En → Option PyData} (hc : DT X c tc) (ha : DE X a t) (hb : DE X b u) : DE X (.IfExp c a b pos) (eIfE tc t u) := ⟨fun B G0 E σ H G d Q I ht q => by
  unfold eIfE at ht
  cases et : tc E with
  | none => rw [et] at ht; cases ht
  | some c1 =>
    rw [et] at ht
    refine PE.b (pe_ifExp (bestT_pt X c) (best_pe X a) (best_pe X b)) ?_
    refine hc.run B G0 E σ H G c1 _ I et fun H1 G1 x1 => ?_
    cases c1 with
    | true => exact iteT (ha.run B G0 E σ H1 G1 d Q (I.ext x1) ht fun v H2 G2 x2 => q v H2 G2 (x1.trans x2))
    | false => exact iteF (hb.run B G0 E σ H1 G1 d Q (I.ext x1) ht fun v H2 G2 x2 => q v H2 G2 (x1.trans x2))⟩
end

/-! ### a def: its promise over data -/
def spD (K : PySem.W.Frag) (n : Nat) (F : List PyData → Option PyData) : Sp := fun vs H Q _ => ∃ (G : Hp) (ds : List PyData) (d : PyData), ds.length = n ∧ Same G H ∧ DpAll K G vs ds ∧ F ds = some d ∧ ∀ v H' G', Ext H G H' G' → Dp K G' v d → Q v H'
def start0 (n : Nat) (ds : List PyData) : En := ds.map .cl ++ List.replicate (n - ds.length) .un
def runD (n : Nat) (t : En → Option Ou) (ds : List PyData) : Option PyData := (t (start0 n ds)).bind fun o => match o with
  | .rt d => some d
  | .nx _ => some .none
  | _ => none
theorem start0_get {n i : Nat} {ds : List PyData} {s : Sl} (e : (start0 n ds)[i]? = some s) : (∃ d, ds[i]? = some d ∧ s = .cl d) ∨ s = .un := by
  unfold start0 at e
  by_cases hi : i < ds.length
  · rw [List.getElem?_append_left (by simpa using hi), List.getElem?_map] at e
    cases q : ds[i]? with
    | none => rw [q] at e; cases e
    | some d =>
      rw [q] at e
      cases e
      exact .inl ⟨d, rfl, rfl⟩
  · rw [List.getElem?_append_right (by simpa using hi), List.getElem?_replicate] at e
    split at e
    · cases e
      exact .inr rfl
    · cases e
theorem start_get {N : List Str} {vs : List V} {i : Nat} {v : V} (h : vs[i]? = some v) : (L2.start N vs)[i]? = some (some v) := by
  have hi : i < vs.length := (List.getElem?_eq_some_iff.mp h).1
  unfold L2.start
  rw [List.getElem?_append_left (by simpa using hi), List.getElem?_map, h]
  rfl
theorem SI.start {K : PySem.W.Frag} {N : List Str} {H G : Hp} {vs : List V} {ds : List PyData} (s : Same G H) (h : DpAll K G vs ds) : SI K ⟨H, fun _ => none⟩ G (start0 N.length ds) (start N vs) H G := by
  have hl := h.length
  refine ⟨by simp [start0, L2.start, hl], .refl s, fun _ => [], fun i sl e => ?_, fun _ _ => rfl, fun _ _ _ a ha => (by cases ha), fun _ a ha => (by cases ha)⟩
  rcases start0_get e with ⟨d, q, rfl⟩ | rfl
  · obtain ⟨v, a, b⟩ := h.get q
    exact ⟨rfl, v, start_get a, b⟩
  · exact rfl
section
variable {P : Program} {w : World} {K : PySem.W.Frag} {mg : Str → Option Value} {base : Heap}
/-- the context of a def's body -/
abbrev cx (P : Program) (w : World) (K : PySem.W.Frag) (mg : Str → Option Value) (base : Heap) (N : List Str) (qual : Str) (st : Stmt) (f : Addr) (cdv : Value) (A : Around) (outer : List Env) (s : Shared) (H : Hp) (E : XK) : Cx :=
  (cxOf CX0 P w K mg base N qual (defScope st) f cdv A outer s H E).nox
theorem fnD {x qual : Str} {st : Stmt} {f : Addr} {fd : FuncData} {N ps : List Str} {k : Nat} {t : En → Option Ou} (F : Fun K x qual st f fd) (S : FnScope N ps (defScope st))
    (hb : ∀ (cdv : Value) (A : Around) (outer : List Env) (s : Shared) (H : Hp) (E : XK), Room k (A.deeper (envOfC qual (defScope st) s.heap.objs.size f cdv)) → DSs (cx P w K mg base N qual st f cdv A outer s H E) (defBody st) t) :
    FnOk P w K mg base CX0 (k + 1) f fd ps (spD K ps.length (runD N.length t)) := by
  refine F.ok S (fun vs H Q E h => ?_) (fun cdv A outer s H vs Q E hr h => ?_)
  · obtain ⟨G, ds, d, hn, hs, hd, _⟩ := h
    rw [hd.length, hn]
  · obtain ⟨G, ds, d, hn, hs, hd, hF, q⟩ := h
    unfold runD at hF
    cases et : t (start0 N.length ds) with
    | none => rw [et] at hF; cases hF
    | some o =>
      rw [et] at hF
      refine (hb cdv A outer s H E hr).run ⟨H, fun _ => none⟩ G _ (start N vs) H G o _ (SI.start hs hd) et ?_
      cases o with
      | rt d' => cases hF; exact fun v H' G' x' hd' => q v H' G' x' hd'
      | nx E' => cases hF; exact fun σ H' G' I' _ => q .non H' G' I'.e .non
      | bk E' => cases hF
      | ct E' => cases hF
      | ro r E' => cases hF
/-- another function of the data that agrees where it is told -/
theorem _root_.L2.FnOk.fn {k n : Nat} {f : Addr} {fd : FuncData} {ps : List Str} {F F' : List PyData → Option PyData} (h : FnOk P w K mg base CX0 k f fd ps (spD K n F)) (hf : ∀ ds d, ds.length = n → F' ds = some d → F ds = some d) : FnOk P w K mg base CX0 k f fd ps (spD K n F') :=
  h.imp fun vs H Q E ⟨G, ds, d, hn, hs, hd, hF, q⟩ => ⟨G, ds, d, hn, hs, hd, hf ds d hn hF, q⟩
end
/-- a def as it stands for its callers -/
structure Fc (X : Cx) (x : Str) (n : Nat) (F : List PyData → Option PyData) : Prop where
  ok : ∃ (k : Nat) (f : Addr) (fd : FuncData) (ps : List Str), ps.length = n ∧ X.mg x = some (.ref f) ∧ PySem.W.keepIn X.K (.ref f) = true ∧ Binds X.K fd ps [] ∧ FnOk X.prog X.w X.K X.mg X.base CX0 k f fd ps (spD X.K n F) ∧ Room k X.A
section
variable {X : Cx} {pos p : Pos}
def eCall (F : List PyData → Option PyData) (t : En → Option (List PyData)) (E : En) : Option PyData := (t E).bind F
theorem de_call {x : Str} {n : Nat} {F : List PyData → Option PyData} {e : Expr} {es : List Expr} {t : En → Option (List PyData)} (hF : Fc X x n F) (ha : DA X (e :: es) t) (hn : (e :: es).length = n := by rfl) (hg : Gl X x := by rfl) (hdb : (x == ("__debug__" : Str)) = false := by decide)
    (he : starEach (e :: es) X.env = (false, eval e X.env) :: starEach es X.env := by rfl) (hpl : (backTo pos (starEach es X.env)).any (·.1) = false := by rfl) :
    DE X (.Call (.Name x p) (e :: es) [] pos) (eCall F t) := ⟨fun B G0 E σ H G d Q I ht q => by
  obtain ⟨k, f, fd, ps, hps, hm, hk, hb, hok, hr⟩ := hF.ok
  unfold eCall at ht
  cases et : t E with
  | none => rw [et] at ht; cases ht
  | some ds =>
    rw [et] at ht
    refine PE.b (pe_call hok hr hg hm hk hb .nil pass0 (bestA_pa X _) hdb he hpl) ?_
    refine ha.run B G0 E σ H G ds _ I et fun vs H1 G1 x1 d1 => ?_
    rw [List.append_nil]
    exact ⟨G1, ds, d, (ha.len E ds et).trans hn, x1.s, d1, ht, fun v H2 G2 x2 d2 => q v H2 G2 (x1.trans x2) d2⟩⟩
end
end Pd

namespace Pd
open PySem PySem.Spec PyProof.Rows L2

/-! ### operators on data -/
def OpD (X : Cx) (f : Value → Value → Sem Value) (g : PyData → PyData → Option PyData) : Prop :=
  ∃ r : R2, OpR X f r ∧ ∀ (H G : Hp) (x y : V) (a b d : PyData) (Q : VK), Same G H → Sm X.K H G x a → Sm X.K H G y b → g a b = some d → (∀ v H' G', Ext H G H' G' → Dp X.K G' v d → Q v H') → r x y H Q
def eBin (g : PyData → PyData → Option PyData) (ta tb : En → Option PyData) (E : En) : Option PyData := (ta E).bind fun a => (tb E).bind fun b => g a b
section
variable {X : Cx} {a b : Expr} {ta tb : En → Option PyData} {pos : Pos}
theorem eBin_some {g : PyData → PyData → Option PyData} {E : En} {d : PyData} (h : eBin g ta tb E = some d) : ∃ x y, ta E = some x ∧ tb E = some y ∧ g x y = some d := by
  unfold eBin at h
  cases ea : ta E with
  | none => rw [ea] at h; cases h
  | some x =>
    rw [ea] at h
    cases eb : tb E with
    | none => rw [eb] at h; cases h
    | some y =>
      rw [eb] at h
      exact ⟨x, y, rfl, rfl, h⟩
theorem binD {r : R2} {g : PyData → PyData → Option PyData} (hr : ∀ (H G : Hp) (x y : V) (a b d : PyData) (Q : VK), Same G H → Sm X.K H G x a → Sm X.K H G y b → g a b = some d → (∀ v H' G', Ext H G H' G' → Dp X.K G' v d → Q v H') → r x y H Q)
    (ha : DS X a ta) (hb : DS X b tb) {B : Bs} {G0 : Hp} {E : En} {σ : SS} {H G : Hp} {d : PyData} {Q : VK} (I : SI X.K B G0 E σ H G) (ht : eBin g ta tb E = some d) (q : ∀ v H' G', Ext H G H' G' → Dp X.K G' v d → Q v H') : tOp r (best X a) (best X b) σ H Q := by
  obtain ⟨x, y, e1, e2, e3⟩ := eBin_some ht
  refine ha.run B G0 E σ H G x _ I e1 fun v H1 G1 x1 d1 => ?_
  refine hb.run B G0 E σ H1 G1 y _ (I.ext x1) e2 fun u H2 G2 x2 d2 => ?_
  exact hr H2 G2 v u x y d Q x2.s (d1.ext x2) d2 e3 fun v H3 G3 x3 d3 => q v H3 G3 ((x1.trans x2).trans x3) d3
theorem de_bin {op : Operator} {g : PyData → PyData → Option PyData} (ho : OpD X (binaryOp op) g) (ha : DS X a ta) (hb : DS X b tb) : DE X (.BinOp a op b pos) (eBin g ta tb) := by
  obtain ⟨r, ho, hr⟩ := ho
  exact ⟨fun B G0 E σ H G d Q I ht q => PE.b (pe_op ho (best_pe X a) (best_pe X b)) (binD hr ha hb I ht q)⟩
theorem de_cmp {op : CmpOp} {g : PyData → PyData → Option PyData} (ho : OpD X (compareOp op) g) (ha : DS X a ta) (hb : DS X b tb) (hm : behindInMarks op b = false := by first | exact nomark _ | rfl) : DE X (.Compare a [op] [b] pos) (eBin g ta tb) := by
  obtain ⟨r, ho, hr⟩ := ho
  exact ⟨fun B G0 E σ H G d Q I ht q => PE.b (pe_cmpR ho (best_pe X a) (best_pe X b) hm) (binD hr ha hb I ht q)⟩
theorem dt_cmp {op : CmpOp} {g : PyData → PyData → Option PyData} (ho : OpD X (compareOp op) g) (ha : DS X a ta) (hb : DS X b tb) (hm : behindInMarks op b = false := by first | exact nomark _ | rfl) : DT X (.Compare a [op] [b] pos) (kB (eBin g ta tb)) := by
  obtain ⟨r, ho, hr⟩ := ho
  refine ⟨fun B G0 E σ H G c Q I ht q => ?_⟩
  unfold kB at ht
  cases et : eBin g ta tb E with
  | none => rw [et] at ht; cases ht
  | some d =>
    rw [et] at ht
    obtain rfl := bOf_some (show bOf d = some c from ht)
    refine ⟨_, pt_cmpR ho (best_pe X a) (best_pe X b) hm, ?_⟩
    exact binD hr ha hb I et fun v H' G' x d => ⟨c, by cases d; rfl, q H' G' x⟩
/-- a op b op' c -/
def eChain (g g' : PyData → PyData → Option PyData) (ta tb tc : En → Option PyData) (E : En) : Option PyData := (ta E).bind fun a => (tb E).bind fun b => ((g a b).bind bOf).bind fun k => if k then (tc E).bind fun c => g' b c else some (.bool false)
theorem chainD {c : Expr} {tc : En → Option PyData} {r r' : R2} {g g' : PyData → PyData → Option PyData}
    (hr : ∀ (H G : Hp) (x y : V) (a b d : PyData) (Q : VK), Same G H → Sm X.K H G x a → Sm X.K H G y b → g a b = some d → (∀ v H' G', Ext H G H' G' → Dp X.K G' v d → Q v H') → r x y H Q)
    (hr' : ∀ (H G : Hp) (x y : V) (a b d : PyData) (Q : VK), Same G H → Sm X.K H G x a → Sm X.K H G y b → g' a b = some d → (∀ v H' G', Ext H G H' G' → Dp X.K G' v d → Q v H') → r' x y H Q)
    (ha : DS X a ta) (hb : DS X b tb) (hc : DS X c tc) {B : Bs} {G0 : Hp} {E : En} {σ : SS} {H G : Hp} {d : PyData} {Q : VK} (I : SI X.K B G0 E σ H G) (ht : eChain g g' ta tb tc E = some d) (q : ∀ v H' G', Ext H G H' G' → Dp X.K G' v d → Q v H') :
    tChain r r' (best X a) (best X b) (best X c) σ H Q := by
  unfold eChain at ht
  cases e1 : ta E with
  | none => rw [e1] at ht; cases ht
  | some x =>
    rw [e1] at ht
    cases e2 : tb E with
    | none => rw [e2] at ht; cases ht
    | some y =>
      rw [e2] at ht
      replace ht : ((g x y).bind bOf).bind (fun k => if k then (tc E).bind fun c => g' y c else some (PyData.bool false)) = some d := ht
      cases e3 : g x y with
      | none => rw [e3] at ht; cases ht
      | some z =>
        rw [e3] at ht
        cases e4 : bOf z with
        | none => rw [show (Option.some z).bind bOf = bOf z from rfl, e4] at ht; cases ht
        | some k =>
          rw [show (Option.some z).bind bOf = bOf z from rfl, e4] at ht
          obtain rfl := bOf_some e4
          refine ha.run B G0 E σ H G x _ I e1 fun v H1 G1 x1 d1 => ?_
          refine hb.run B G0 E σ H1 G1 y _ (I.ext x1) e2 fun u H2 G2 x2 d2 => ?_
          refine hr H2 G2 v u x y _ _ x2.s (d1.ext x2) d2 e3 fun v3 H3 G3 x3 d3 => ⟨k, by cases d3; rfl, ?_⟩
          cases k with
          | true =>
            replace ht : (tc E).bind (fun c => g' y c) = some d := ht
            cases e5 : tc E with
            | none => rw [e5] at ht; cases ht
            | some z =>
              rw [e5] at ht
              refine iteT (hc.run B G0 E σ H3 G3 z _ (((I.ext x1).ext x2).ext x3) e5 fun w H4 G4 x4 d4 => ?_)
              exact hr' H4 G4 u w y z d _ x4.s ((d2.ext x3).ext x4) d4 ht fun v5 H5 G5 x5 d5 => q v5 H5 G5 ((((x1.trans x2).trans x3).trans x4).trans x5) d5
          | false =>
            cases ht
            exact iteF (q _ H3 G3 ((x1.trans x2).trans x3) (.bl false))
theorem de_chain {c : Expr} {tc : En → Option PyData} {op op' : CmpOp} {g g' : PyData → PyData → Option PyData} (ho : OpD X (compareOp op) g) (ho' : OpD X (compareOp op') g') (ha : DS X a ta) (hb : DS X b tb) (hc : DS X c tc)
    (hm : lastMarks [op, op'] [b, c] = false := by rfl) : DE X (.Compare a [op, op'] [b, c] pos) (eChain g g' ta tb tc) := by
  obtain ⟨r, ho, hr⟩ := ho
  obtain ⟨r', ho', hr'⟩ := ho'
  exact ⟨fun B G0 E σ H G d Q I ht q => PE.b (pe_chain ho ho' (best_pe X a) (best_pe X b) (best_pe X c) hm) (chainD hr hr' ha hb hc I ht q)⟩
theorem dt_chain {c : Expr} {tc : En → Option PyData} {op op' : CmpOp} {g g' : PyData → PyData → Option PyData} (ho : OpD X (compareOp op) g) (ho' : OpD X (compareOp op') g') (ha : DS X a ta) (hb : DS X b tb) (hc : DS X c tc)
    (hm : lastMarks [op, op'] [b, c] = false := by rfl) : DT X (.Compare a [op, op'] [b, c] pos) (kB (eChain g g' ta tb tc)) := by
  obtain ⟨r, ho, hr⟩ := ho
  obtain ⟨r', ho', hr'⟩ := ho'
  refine ⟨fun B G0 E σ H G c' Q I ht q => ?_⟩
  unfold kB at ht
  cases et : eChain g g' ta tb tc E with
  | none => rw [et] at ht; cases ht
  | some d =>
    rw [et] at ht
    obtain rfl := bOf_some (show bOf d = some c' from ht)
    refine ⟨_, pt_chain ho ho' (best_pe X a) (best_pe X b) (best_pe X c) hm, ?_⟩
    exact chainD hr hr' ha hb hc I et fun v H' G' x d => ⟨c', by cases d; rfl, q H' G' x⟩
end

/-! #### the operators -/
section
variable {X : Cx}
theorem OpD.int {f : Value → Value → Sem Value} {C : Int → Int → Prop} {g0 : Int → Int → V} {h0 : Int → Int → PyData} {g : PyData → PyData → Option PyData} (ho : OpR X f (rI C g0)) (hd : ∀ G i j, Dp X.K G (g0 i j) (h0 i j))
    (hg : ∀ a b d, g a b = some d → ∃ i j, a = .int i ∧ b = .int j ∧ C i j ∧ d = h0 i j) : OpD X f g := ⟨_, ho, fun H G x y a b d Q s ha hb e q => by
  obtain ⟨i, j, rfl, rfl, c, rfl⟩ := hg a b d e
  exact ⟨i, j, ha.int, hb.int, c, q _ H G (.refl s) (hd G i j)⟩⟩
theorem OpD.int0 {f : Value → Value → Sem Value} {g0 : Int → Int → V} {h0 : Int → Int → PyData} {g : PyData → PyData → Option PyData} (ho : OpR X f (rI0 g0)) (hd : ∀ G i j, Dp X.K G (g0 i j) (h0 i j))
    (hg : ∀ a b d, g a b = some d → ∃ i j, a = .int i ∧ b = .int j ∧ d = h0 i j) : OpD X f g := ⟨_, ho, fun H G x y a b d Q s ha hb e q => by
  obtain ⟨i, j, rfl, rfl, rfl⟩ := hg a b d e
  exact ⟨i, j, ha.int, hb.int, q _ H G (.refl s) (hd G i j)⟩⟩
/-- list + list, both of any kind -/
def rCatS (K : PySem.W.Frag) : R2 := fun x y H Q => ∃ l b xs zs, x = .ref l ∧ y = .ref b ∧ SqL K H l xs ∧ SqL K H b zs ∧ xs.length + zs.length ≤ sizeLine ∧ ∀ p, H p = none → Q (.ref p) (upd H p (.lst (xs ++ zs)))
theorem op_catS : OpR X (binaryOp .Add) (rCatS X.K) := by
  intro pins s σ H x y v u Q I rx ry h
  obtain ⟨l, b, xs, zs, rfl, rfl, hH, hB, hz, q⟩ := h
  cases rx
  cases ry
  obtain ⟨its, r, ⟨⟨cls, dd, data, sl⟩, n, ho, hc, _, hd⟩, _⟩ := I.list hH
  obtain ⟨its2, r2, ⟨⟨cls2, dd2, data2, sl2⟩, n2, ho2, hc2, _, hd2⟩, _⟩ := I.list hB
  simp only at hc hd hc2 hd2
  subst hc hd hc2 hd2
  have e1 := r.length
  have e2 := r2.length
  refine concat_meets ⟨_, ho, rfl⟩ ⟨_, ho2, rfl⟩ noFill_list_add seq_list_add PySem.F.slot_list_add PySem.F.entry_list_add (PySem.F.args_list_add_2 _ _) (list_addW l b its.toArray its2.toArray n n2 dd dd2 sl sl2 (by rw [List.size_toArray, List.size_toArray]; omega)) ⟨ho, ho2, ?_⟩
  have ea : its.toArray ++ its2.toArray = (its ++ its2).toArray := by simp
  rw [ea]
  exact ⟨.ref _, _, I.lnew (t' := s.toks) (r.append r2) (by rw [List.length_append]; omega), rfl, q _ I.fresh⟩
def chkLd (ds : List PyData) : Option PyData := (chkL ds).map .list
def dAdd : PyData → PyData → Option PyData
  | .int i, .int j => some (.int (i + j))
  | .str x, .str y => chkS (x ++ y)
  | .tuple xs, .tuple ys => chkT (xs ++ ys)
  | .list xs, .list ys => chkLd (xs ++ ys)
  | _, _ => none
theorem strlen_app (x y : Str) : (x ++ y).length = x.length + y.length := Array.size_append
theorem o_add : OpD X (binaryOp .Add) dAdd := by
  refine ⟨_, op_add.or (op_add_str.or (op_catA.or op_catS)), fun H G x y a b d Q s ha hb e q => ?_⟩
  unfold dAdd at e
  split at e
  · cases e
    exact .inl ⟨_, _, ha.int, hb.int, q _ H G (.refl s) (.int _)⟩
  · obtain ⟨hl, rfl⟩ := chkS_some e
    rw [strlen_app] at hl
    exact .inr (.inl ⟨_, _, ha.str, hb.str, hl, q _ H G (.refl s) (.str _)⟩)
  · obtain ⟨hl, rfl⟩ := chkT_some e
    rw [List.length_append] at hl
    obtain ⟨p, xs, rfl, h1, h2⟩ := ha.tuple s
    obtain ⟨p', ys, rfl, h1', h2'⟩ := hb.tuple s
    have l1 := h2.length
    have l2 := h2'.length
    refine .inr (.inr (.inl ⟨p, p', xs, ys, rfl, rfl, h1, h1', by omega, fun e => ?_, fun _ e => ?_, fun _ _ r hr => ?_⟩))
    · subst e
      cases h2
      rcases hb with hb | ⟨_, _, _, _, e, _⟩
      · exact q _ H G (.refl s) hb
      · cases e
    · subst e
      cases h2'
      rw [List.append_nil] at q
      rcases ha with hb | ⟨_, _, _, _, e, _⟩
      · exact q _ H G (.refl s) hb
      · cases e
    · exact q _ _ _ (.new s hr) (.tup (.inl (.inl upd_same)) ((h2.append h2').mo (same_upd (s.free hr))))
  · unfold chkLd at e
    rename_i us ws
    cases ec : chkL (us ++ ws) with
    | none => rw [ec] at e; cases e
    | some zs =>
      rw [ec] at e
      obtain ⟨hl, rfl⟩ := chkL_some ec
      cases e
      rw [List.length_append] at hl
      obtain ⟨p, xs, rfl, h1, h2⟩ := ha.list s
      obtain ⟨p', ys, rfl, h1', h2'⟩ := hb.list s
      have l1 := h2.length
      have l2 := h2'.length
      refine .inr (.inr (.inr ⟨p, p', xs, ys, rfl, rfl, h1, h1', by omega, fun r hr => ?_⟩))
      exact q _ _ _ (.new s hr) (.lst (.inl (.inl upd_same)) ((h2.append h2').mo (same_upd (s.free hr))))
  · cases e
def dSub : PyData → PyData → Option PyData
  | .int i, .int j => some (.int (i - j))
  | _, _ => none
theorem o_sub : OpD X (binaryOp .Sub) dSub := OpD.int0 op_sub (fun G i j => .int _) fun a b d e => by
  unfold dSub at e
  split at e
  · cases e; exact ⟨_, _, rfl, rfl, rfl⟩
  · cases e
/-- a product whose size is known -/
def mulOk (i j : Int) : Bool := decide (i.natAbs.log2 + j.natAbs.log2 < 1000000) || decide (-(2 ^ 64) < i ∧ i < 2 ^ 64) || decide (-(2 ^ 64) < j ∧ j < 2 ^ 64)
def mulC (i j : Int) : Option PyData := if mulOk i j then some (.int (i * j)) else none
theorem mulOk_left {i j : Int} (h : -(2 ^ 64) < i ∧ i < 2 ^ 64) : mulOk i j = true := by
  unfold mulOk
  rw [decide_eq_true h, Bool.or_true, Bool.true_or]
theorem mulOk_right {i j : Int} (h : -(2 ^ 64) < j ∧ j < 2 ^ 64) : mulOk i j = true := by
  unfold mulOk
  rw [decide_eq_true h, Bool.or_true]
theorem mulC_l {i j : Int} (h1 : -(2 ^ 64) < i) (h2 : i < 2 ^ 64) : mulC i j = some (.int (i * j)) := if_pos (mulOk_left ⟨h1, h2⟩)
theorem mulC_r {i j : Int} (h1 : -(2 ^ 64) < j) (h2 : j < 2 ^ 64) : mulC i j = some (.int (i * j)) := if_pos (mulOk_right ⟨h1, h2⟩)
/-! tuple * 1 -/
theorem tuple_mul1 (l : Addr) (items : Array Value) (n : Nat) (dd : Option Addr) (sl : Array (Option Value)) (u : Tok) :
    Meets (Builtin.«tuple.__mul__» ⟨[.ref l, .int 1 u], []⟩) (fun _ R s => s.heap.get? l = some { cls := .type "tuple", dict := dd, data := .seq items n, slots := sl } ∧ R (.ok (.ret (.ref l))) s) :=
  .of_wp fun prog w A R s h => by
    obtain ⟨hp, g, d, tk, os⟩ := s
    obtain ⟨hl, h⟩ := h
    have f1 := AutoSeq1.idx_int
    wp_walk using wpAny_loadPart' hl
    exact ⟨_, rfl, h⟩
def rRep1 (K : PySem.W.Frag) : R2 := fun x y H Q => ∃ l xs, x = .ref l ∧ y = .int 1 ∧ SqT K H l xs ∧ Q (.ref l) H
theorem op_rep1 : OpR X (binaryOp .Mult) (rRep1 X.K) := by
  intro pins s σ H x y v u Q I rx ry h
  obtain ⟨l, xs, rfl, rfl, hT, q⟩ := h
  cases rx
  obtain ⟨t, rfl⟩ := ry
  obtain ⟨its, r, ⟨⟨cls, dd, data, sl⟩, ho, hc, n, hd⟩, hs⟩ := I.tuple hT
  simp only at hc hd
  subst hc hd
  refine wpAny_binaryOp_repeat_ref (T := "tuple") (U := "int") (by decide) ⟨_, ho, rfl⟩ (fun s' => typeIs_int s' 1 t) noFill_tuple_mul F.fills_int_mul F.slot_int_rmul repeat_tuple F.slot_int_index.lookup
    (call_meets F.slot_int_rmul (typeIs_int s 1 t) F.entry_int_rmul (F.args_int_rmul_2 _ _) (int_rmul_tuple 1 t l its.toArray n dd sl)
      ⟨ho, rfl, ⟨_, ho, rfl⟩, call_meets F.slot_tuple_mul ⟨_, ho, rfl⟩ F.entry_tuple_mul (F.args_tuple_mul_2 _ _) (tuple_mul1 l its.toArray n dd sl t) ⟨ho, ?_⟩⟩)
  refine ⟨.ref l, _, I, rfl, q⟩
def repC (xs : List PyData) (k : Int) : Option PyData := if k = 1 then some (.tuple xs) else if xs ≠ [] ∧ 2 ≤ k ∧ k ≤ 1000 ∧ xs.length ≤ 1000 then some (.tuple (List.replicate k.toNat xs).flatten) else none
def dMul : PyData → PyData → Option PyData
  | .int i, .int j => mulC i j
  | .tuple xs, .int k => repC xs k
  | _, _ => none
theorem o_mul : OpD X (binaryOp .Mult) dMul := by
  refine ⟨_, op_mul.or (op_mulW.or (op_repT.or op_rep1)), fun H G x y a b d Q s ha hb e q => ?_⟩
  unfold dMul at e
  split at e
  · rename_i i j
    unfold mulC at e
    split at e
    · rename_i hm
      cases e
      unfold mulOk at hm
      rw [Bool.or_eq_true, Bool.or_eq_true, decide_eq_true_eq, decide_eq_true_eq, decide_eq_true_eq] at hm
      rcases hm with (hm | hm) | hm
      · exact .inr (.inl ⟨_, _, ha.int, hb.int, hm, q _ H G (.refl s) (.int _)⟩)
      · exact .inl ⟨_, _, ha.int, hb.int, .inl hm, q _ H G (.refl s) (.int _)⟩
      · exact .inl ⟨_, _, ha.int, hb.int, .inr hm, q _ H G (.refl s) (.int _)⟩
    · cases e
  · unfold repC at e
    split at e
    · rename_i us k hk
      cases e
      subst hk
      obtain ⟨p, xs, rfl, g1, g2⟩ := ha.tuple s
      exact .inr (.inr (.inr ⟨p, xs, rfl, hb.int, g1, q _ H G (.refl s) (by
        rcases ha with h | ⟨_, _, _, _, e, _⟩
        · exact h
        · cases e)⟩))
    · split at e
      · rename_i us k hk1 hk
        cases e
        obtain ⟨h1, h2, h3, h4⟩ := hk
        obtain ⟨p, xs, rfl, g1, g2⟩ := ha.tuple s
        have l1 := g2.length
        refine .inr (.inr (.inl ⟨p, k, xs, rfl, hb.int, g1, fun e => h1 ?_, h2, h3, by omega, fun r hr => ?_⟩))
        · subst e
          cases g2
          rfl
        · exact q _ _ _ (.new s hr) (.tup (.inl (.inl upd_same)) ((g2.rep _).mo (same_upd (s.free hr))))
      · cases e
  · cases e
def fdivC (i j : Int) : Option PyData := if 0 < j ∧ j.natAbs.log2 < 9000 then some (.int (i / j)) else none
theorem fdivC_of {i j : Int} (h : 0 < j) (h2 : j.natAbs.log2 < 9000) : fdivC i j = some (.int (i / j)) := if_pos ⟨h, h2⟩
def dFdiv : PyData → PyData → Option PyData
  | .int i, .int j => fdivC i j
  | _, _ => none
theorem o_fdiv : OpD X (binaryOp .FloorDiv) dFdiv := OpD.int (C := CDivW) op_fdivW (fun G i j => .int _) fun a b d e => by
  unfold dFdiv at e
  split at e
  · unfold fdivC at e
    split at e
    · rename_i h
      cases e; exact ⟨_, _, rfl, rfl, h, rfl⟩
    · cases e
  · cases e
def modC (i j : Int) : Option PyData := if 0 < j then some (.int (i % j)) else none
theorem modC_of {i j : Int} (h : 0 < j) : modC i j = some (.int (i % j)) := if_pos h
def dMod : PyData → PyData → Option PyData
  | .int i, .int j => modC i j
  | _, _ => none
theorem o_mod : OpD X (binaryOp .Mod) dMod := OpD.int (C := fun _ j => 0 < j) op_mod (fun G i j => .int _) fun a b d e => by
  unfold dMod at e
  split at e
  · unfold modC at e
    split at e
    · rename_i h
      cases e; exact ⟨_, _, rfl, rfl, h, rfl⟩
    · cases e
  · cases e
def powC (i j : Int) : Option PyData := if 0 ≤ j ∧ j ≤ 1000000 ∧ i.natAbs < 2 ^ 64 then some (.int (i ^ j.toNat)) else none
def dPow : PyData → PyData → Option PyData
  | .int i, .int j => powC i j
  | _, _ => none
theorem o_pow : OpD X (binaryOp .Pow) dPow := OpD.int (C := CPow) op_pow (fun G i j => .int _) fun a b d e => by
  unfold dPow at e
  split at e
  · unfold powC at e
    split at e
    · rename_i h
      cases e; exact ⟨_, _, rfl, rfl, h, rfl⟩
    · cases e
  · cases e
def lshC (i j : Int) : Option PyData := if 0 ≤ j ∧ j ≤ 1000000 ∧ i.natAbs < 2 ^ 64 then some (.int (i * 2 ^ j.toNat)) else none
def dLsh : PyData → PyData → Option PyData
  | .int i, .int j => lshC i j
  | _, _ => none
theorem o_lsh : OpD X (binaryOp .LShift) dLsh := OpD.int (C := CPow) op_shl (fun G i j => .int _) fun a b d e => by
  unfold dLsh at e
  split at e
  · unfold lshC at e
    split at e
    · rename_i h
      cases e; exact ⟨_, _, rfl, rfl, h, rfl⟩
    · cases e
  · cases e
def rshC (i j : Int) : Option PyData := if 0 ≤ j then some (.int (i / 2 ^ j.toNat)) else none
def dRsh : PyData → PyData → Option PyData
  | .int i, .int j => rshC i j
  | _, _ => none
theorem o_rsh : OpD X (binaryOp .RShift) dRsh := OpD.int (C := fun _ j => 0 ≤ j) op_shr (fun G i j => .int _) fun a b d e => by
  unfold dRsh at e
  split at e
  · unfold rshC at e
    split at e
    · rename_i h
      cases e; exact ⟨_, _, rfl, rfl, h, rfl⟩
    · cases e
  · cases e
def dBand : PyData → PyData → Option PyData
  | .int i, .int j => some (.int (Builtin.bitAnd i j))
  | _, _ => none
theorem o_band : OpD X (binaryOp .BitAnd) dBand := OpD.int0 op_and (fun G i j => .int _) fun a b d e => by
  unfold dBand at e
  split at e
  · cases e; exact ⟨_, _, rfl, rfl, rfl⟩
  · cases e
def dLt : PyData → PyData → Option PyData
  | .int i, .int j => some (.bool (decide (i < j)))
  | .str x, .str y => some (.bool (decide (x.cps.toList < y.cps.toList)))
  | _, _ => none
theorem o_lt : OpD X (compareOp .Lt) dLt := by
  refine ⟨_, op_lt.or op_lt_str, fun H G x y a b d Q s ha hb e q => ?_⟩
  unfold dLt at e
  split at e
  · cases e
    exact .inl ⟨_, _, ha.int, hb.int, q _ H G (.refl s) (.bl _)⟩
  · cases e
    exact .inr ⟨_, _, ha.str, hb.str, q _ H G (.refl s) (.bl _)⟩
  · cases e
def dLe : PyData → PyData → Option PyData
  | .int i, .int j => some (.bool (decide (i ≤ j)))
  | _, _ => none
theorem o_le : OpD X (compareOp .LtE) dLe := OpD.int0 op_le (h0 := fun i j => .bool (decide (i ≤ j))) (fun G i j => .bl _) fun a b d e => by
  unfold dLe at e
  split at e
  · cases e; exact ⟨_, _, rfl, rfl, rfl⟩
  · cases e
def dGt : PyData → PyData → Option PyData
  | .int i, .int j => some (.bool (decide (j < i)))
  | _, _ => none
theorem o_gt : OpD X (compareOp .Gt) dGt := OpD.int0 op_gt (h0 := fun i j => .bool (decide (j < i))) (fun G i j => .bl _) fun a b d e => by
  unfold dGt at e
  split at e
  · cases e; exact ⟨_, _, rfl, rfl, rfl⟩
  · cases e
def dGe : PyData → PyData → Option PyData
  | .int i, .int j => some (.bool (decide (j ≤ i)))
  | _, _ => none
theorem o_ge : OpD X (compareOp .GtE) dGe := OpD.int0 op_ge (h0 := fun i j => .bool (decide (j ≤ i))) (fun G i j => .bl _) fun a b d e => by
  unfold dGe at e
  split at e
  · cases e; exact ⟨_, _, rfl, rfl, rfl⟩
  · cases e
def dEq (a b : PyData) : Option PyData := if SeqAt.shaped a && SeqAt.shaped b then some (.bool (PyData.eqv a b)) else none
def dNe (a b : PyData) : Option PyData := if SeqAt.shaped a && SeqAt.shaped b then some (.bool (!PyData.eqv a b)) else none
theorem o_eq {k : Nat} (hr : Room k X.A) : OpD X (compareOp .Eq) dEq := ⟨_, op_eqD hr.units, fun H G x y a b d Q s ha hb e q => by
  unfold dEq at e
  split at e
  · rename_i h
    rw [Bool.and_eq_true] at h
    cases e
    exact ⟨a, b, (ha.dp s).sh h.1, (hb.dp s).sh h.2, h.1, h.2, q _ H G (.refl s) (.bl _)⟩
  · cases e⟩
theorem o_ne {k : Nat} (hr : Room k X.A) : OpD X (compareOp .NotEq) dNe := ⟨_, op_neD hr.units, fun H G x y a b d Q s ha hb e q => by
  unfold dNe at e
  split at e
  · rename_i h
    rw [Bool.and_eq_true] at h
    cases e
    exact ⟨a, b, (ha.dp s).sh h.1, (hb.dp s).sh h.2, h.1, h.2, q _ H G (.refl s) (.bl _)⟩
  · cases e⟩
def isNoneD : PyData → Bool
  | .none => true
  | _ => false
/-- x is None, x is True, x is False -/
def dIs : PyData → PyData → Option PyData
  | a, .none => some (.bool (isNoneD a))
  | .bool a, .bool b => some (.bool (decide (a = b)))
  | _, _ => none
theorem Sm.isNone {K : PySem.W.Frag} {H G : Hp} {v : V} {a : PyData} (h : Sm K H G v a) : decide (v = .non) = isNoneD a := by
  rcases h with h | ⟨p, xs, ds', rfl, rfl, h1, h2⟩
  · cases h <;> rfl
  · rfl
theorem o_is : OpD X (compareOp .Is) dIs := by
  refine ⟨_, op_isN.or op_isBl, fun H G x y a b d Q s ha hb e q => ?_⟩
  unfold dIs at e
  split at e
  · cases e
    refine .inl ⟨hb.none, ?_⟩
    rw [ha.isNone]
    exact q _ H G (.refl s) (.bl _)
  · cases e
    exact .inr ⟨_, _, ha.bool, hb.bool, q _ H G (.refl s) (.bl _)⟩
  · cases e
def dIsNot : PyData → PyData → Option PyData
  | a, .none => some (.bool (!isNoneD a))
  | .bool a, .bool b => some (.bool (!decide (a = b)))
  | _, _ => none
theorem o_isnot : OpD X (compareOp .IsNot) dIsNot := by
  refine ⟨_, op_notN.or op_notBl, fun H G x y a b d Q s ha hb e q => ?_⟩
  unfold dIsNot at e
  split at e
  · cases e
    refine .inl ⟨hb.none, ?_⟩
    rw [ha.isNone]
    exact q _ H G (.refl s) (.bl _)
  · cases e
    exact .inr ⟨_, _, ha.bool, hb.bool, q _ H G (.refl s) (.bl _)⟩
  · cases e
/-- flat data in a list, a tuple -/
def flatD : PyData → Bool
  | .none => true
  | .bool _ => true
  | .int _ => true
  | .str _ => true
  | _ => false
theorem Dp.flat {K : PySem.W.Frag} {G : Hp} {v : V} {a : PyData} (h : Dp K G v a) (f : flatD a = true) : flatV v = true := by
  cases h <;> first | rfl | cases f
theorem Dp.eqV {K : PySem.W.Frag} {G : Hp} {v u : V} {a b : PyData} (h : Dp K G v a) (g : Dp K G u b) (f : flatD a = true) (f' : flatD b = true) : eqV v u = PyData.eqv a b := by
  cases h <;> cases g <;> first | rfl | (cases f; done) | (cases f'; done) | simp [L2.eqV, PyData.eqv]
theorem DpAll.flat {K : PySem.W.Frag} {G : Hp} : ∀ {vs : List V} {ds : List PyData}, DpAll K G vs ds → ds.all flatD = true → vs.all flatV = true
  | _, [], h, _ => by cases h; rfl
  | _, d :: ds, h, f => by
    cases h with
    | cons h1 h2 =>
      rw [List.all_cons, Bool.and_eq_true] at f ⊢
      exact ⟨Dp.flat h1 f.1, DpAll.flat h2 f.2⟩
theorem DpAll.inV {K : PySem.W.Frag} {G : Hp} {v : V} {a : PyData} (hv : Dp K G v a) (fa : flatD a = true) : ∀ {vs : List V} {ds : List PyData}, DpAll K G vs ds → ds.all flatD = true → inV v vs = ds.any fun d => PyData.eqv d a
  | _, [], h, _ => by cases h; rfl
  | _, d :: ds, h, f => by
    cases h with
    | cons h1 h2 =>
      rw [List.all_cons, Bool.and_eq_true] at f
      have ih := DpAll.inV hv fa h2 f.2
      unfold L2.inV at ih ⊢
      rw [List.any_cons, List.any_cons, ih, Dp.eqV h1 hv f.1 fa]
def dIn0 (x : PyData) : PyData → Option Bool
  | .list ys => if flatD x && ys.all flatD then some (ys.any fun d => PyData.eqv d x) else none
  | .tuple ys => if flatD x && ys.all flatD then some (ys.any fun d => PyData.eqv d x) else none
  | _ => none
def dIn (x y : PyData) : Option PyData := (dIn0 x y).map .bool
def dNotIn (x y : PyData) : Option PyData := (dIn0 x y).map fun b => .bool (!b)
theorem in0 {neg : Bool} {H G : Hp} {x y : V} {a b : PyData} {c : Bool} {Q : VK} (s : Same G H) (ha : Sm X.K H G x a) (hb : Sm X.K H G y b) (e : dIn0 a b = some c) (q : Q (.bl (if neg then !c else c)) H) : rIn X.K neg x y H Q := by
  unfold dIn0 at e
  split at e
  · rename_i ys
    split at e
    · rename_i h
      rw [Bool.and_eq_true] at h
      cases e
      obtain ⟨p, xs, rfl, h1, h2⟩ := hb.list s
      have ha' := ha.dp s
      have h2' := h2.mo s
      refine ⟨p, xs, rfl, .inl h1, Dp.flat ha' h.1, DpAll.flat h2' h.2, ?_⟩
      rw [DpAll.inV ha' h.1 h2' h.2]
      exact q
    · cases e
  · rename_i ys
    split at e
    · rename_i h
      rw [Bool.and_eq_true] at h
      cases e
      obtain ⟨p, xs, rfl, h1, h2⟩ := hb.tuple s
      have ha' := ha.dp s
      have h2' := h2.mo s
      refine ⟨p, xs, rfl, .inr h1, Dp.flat ha' h.1, DpAll.flat h2' h.2, ?_⟩
      rw [DpAll.inV ha' h.1 h2' h.2]
      exact q
    · cases e
  · cases e
theorem o_in : OpD X (compareOp .In) dIn := ⟨_, op_in_seq, fun H G x y a b d Q s ha hb e q => by
  unfold dIn at e
  cases ec : dIn0 a b with
  | none => rw [ec] at e; cases e
  | some c =>
    rw [ec] at e
    cases e
    exact in0 s ha hb ec (q _ H G (.refl s) (.bl _))⟩
theorem o_notin : OpD X (compareOp .NotIn) dNotIn := ⟨_, op_notIn_seq, fun H G x y a b d Q s ha hb e q => by
  unfold dNotIn at e
  cases ec : dIn0 a b with
  | none => rw [ec] at e; cases e
  | some c =>
    rw [ec] at e
    cases e
    exact in0 s ha hb ec (q _ H G (.refl s) (.bl _))⟩
def dNeg : PyData → Option PyData
  | .int i => some (.int (-i))
  | _ => none
def eUn (g : PyData → Option PyData) (t : En → Option PyData) (E : En) : Option PyData := (t E).bind g
theorem de_neg {a : Expr} {t : En → Option PyData} {pos : Pos} (h : DS X a t) : DE X (.UnaryOp .USub a pos) (eUn dNeg t) := ⟨fun B G0 E σ H G d Q I ht q => by
  unfold eUn at ht
  cases et : t E with
  | none => rw [et] at ht; cases ht
  | some d1 =>
    rw [et] at ht
    cases d1 with
    | int i =>
      cases ht
      refine PE.b (pe_un un_neg (best_pe X a)) ?_
      exact h.run B G0 E σ H G _ _ I et fun v H1 G1 x1 d2 => ⟨i, d2.int, q _ H1 G1 x1 (.int _)⟩
    | _ => cases ht⟩
end
end Pd

namespace Pd
open PySem PySem.Spec PyProof.Rows L2

/-! ### subscripts -/
def dIx : PyData → PyData → Option PyData
  | .list xs, .int i => atI xs i
  | .tuple xs, .int i => atI xs i
  | .str z, .int i => (chkS z).bind fun _ => (atI z.cps.toList i).map fun c => .str ⟨#[c]⟩
  | _, _ => none
theorem atI_map {K : PySem.W.Frag} {G : Hp} {vs : List V} {ds : List PyData} (h : DpAll K G vs ds) {i : Int} {d : PyData} (e : atI ds i = some d) : ∃ v, atI vs i = some v ∧ Dp K G v d := by
  unfold atI at e ⊢
  rw [h.length]
  cases ej : ixN ds.length i with
  | none => rw [ej] at e; cases e
  | some j =>
    rw [ej] at e
    exact h.get e
section
variable {X : Cx} {a b : Expr} {ta tb : En → Option PyData} {pos : Pos}
theorem de_ix (ha : DS X a ta) (hb : DS X b tb) (hs : PlainIx b := by intro _ _; rfl) : DE X (.Subscript a b pos) (eBin dIx ta tb) := ⟨fun B G0 E σ H G d Q I ht q => by
  refine PE.b (pe_ix ix_seq (best_pe X a) (best_pe X b) hs) ?_
  refine binD (g := dIx) (fun H G x y a b d Q s ha hb e q => ?_) ha hb I ht q
  unfold dIx at e
  split at e
  · obtain ⟨p, xs, rfl, h1, h2⟩ := ha.list s
    obtain ⟨v, e1, e2⟩ := atI_map h2 e
    exact .inl ⟨p, xs, _, v, rfl, hb.int, h1, e1, q v H G (.refl s) e2⟩
  · obtain ⟨p, xs, rfl, h1, h2⟩ := ha.tuple s
    obtain ⟨v, e1, e2⟩ := atI_map h2 e
    exact .inr (.inl ⟨p, xs, _, v, rfl, hb.int, h1, e1, q v H G (.refl s) e2⟩)
  · rename_i z i
    cases ez : chkS z with
    | none => rw [ez] at e; cases e
    | some z' =>
      rw [ez] at e
      replace e : (atI z.cps.toList i).map (fun c => PyData.str ⟨#[c]⟩) = some d := e
      cases ec : atI z.cps.toList i with
      | none => rw [ec] at e; cases e
      | some c =>
        rw [ec] at e
        cases e
        exact .inr (.inr ⟨z, i, c, ha.str, hb.int, (chkS_some ez).1, ec, q _ H G (.refl s) (.str _)⟩)
  · cases e⟩
/-- the parts of a slice -/
structure DO (X : Cx) (e : Option Expr) (t : En → Option (Option Int)) : Prop where
  run : ∀ (B : Bs) (G0 : Hp) (E : En) (σ : SS) (H G : Hp) (o : Option Int), SI X.K B G0 E σ H G → t E = some o → ∀ Q : Option Int → Hp → Prop, (∀ H' G', Ext H G H' G' → Q o H') → ∃ tt, PO X e tt ∧ tt σ H Q
def oN (_E : En) : Option (Option Int) := some none
def iOf : PyData → Option Int
  | .int i => some i
  | _ => none
theorem iOf_some {d : PyData} {b : Int} (h : iOf d = some b) : d = .int b := by
  cases d with
  | int c => cases h; rfl
  | _ => cases h
def oS (t : En → Option PyData) (E : En) : Option (Option Int) := ((t E).bind iOf).map some
theorem do_n : DO X none oN := ⟨fun B G0 E σ H G o I ht Q q => by
  cases ht
  exact ⟨_, po_none, q H G (.refl I.s)⟩⟩
theorem do_s (h : DS X a ta) : DO X (some a) (oS ta) := ⟨fun B G0 E σ H G o I ht Q q => by
  unfold oS at ht
  cases et : ta E with
  | none => rw [et] at ht; cases ht
  | some d =>
    rw [et] at ht
    cases ei : iOf d with
    | none => rw [show (Option.some d).bind iOf = iOf d from rfl, ei] at ht; cases ht
    | some i =>
      rw [show (Option.some d).bind iOf = iOf d from rfl, ei] at ht
      cases ht
      obtain rfl := iOf_some ei
      exact ⟨_, po_some (best_pe X a), h.run B G0 E σ H G _ _ I et fun v H1 G1 x1 d1 => ⟨i, d1.int, q H1 G1 x1⟩⟩⟩
def bestO (X : Cx) (e : Option Expr) : TO := fun σ H Q => ∃ t, PO X e t ∧ t σ H Q
theorem bestO_po (X : Cx) (e : Option Expr) : PO X e (bestO X e) := ⟨fun pins s σ H Q I ⟨_, p, h⟩ => p.run pins s σ H Q I h⟩
def cutD {α : Type} (xs : List α) (lo hi : Option Int) : List α := (xs.drop (HT.sIx xs.length 0 lo)).take (HT.sIx xs.length xs.length hi - HT.sIx xs.length 0 lo)
theorem DpAll.cut {K : PySem.W.Frag} {G : Hp} {vs : List V} {ds : List PyData} (h : DpAll K G vs ds) (lo hi : Option Int) : DpAll K G (cutV vs lo hi) (cutD ds lo hi) := by
  unfold cutV cutD
  rw [h.length]
  exact (h.drop _).take _
/-- a slice of a tuple, a text -/
def dSl : PyData → Option Int → Option Int → Option PyData
  | .tuple xs, lo, hi => some (.tuple (cutD xs lo hi))
  | .str z, lo, hi => (chkS z).map fun _ => .str (cutS z lo hi)
  | .list xs, lo, hi => some (.list (cutD xs lo hi))
  | _, _, _ => none
def eSl (t : En → Option PyData) (l u : En → Option (Option Int)) (E : En) : Option PyData := (t E).bind fun d => (l E).bind fun lo => (u E).bind fun hi => dSl d lo hi
theorem cutD_whole {α : Type} (xs : List α) (lo hi : Option Int) (h : HT.sIx xs.length 0 lo = 0 ∧ HT.sIx xs.length xs.length hi = xs.length) : cutD xs lo hi = xs := by
  unfold cutD
  rw [h.1, h.2, List.drop_zero, Nat.sub_zero, List.take_length]
theorem de_sl {lo hi : Option Expr} {l u : En → Option (Option Int)} {p2 : Pos} (ha : DS X a ta) (hl : DO X lo l) (hu : DO X hi u) : DE X (.Subscript a (.Slice lo hi none p2) pos) (eSl ta l u) := ⟨fun B G0 E σ H G d Q I ht q => by
  unfold eSl at ht
  cases e1 : ta E with
  | none => rw [e1] at ht; cases ht
  | some x =>
    rw [e1] at ht
    cases e2 : l E with
    | none => rw [e2] at ht; cases ht
    | some lo' =>
      rw [e2] at ht
      cases e3 : u E with
      | none => rw [e3] at ht; cases ht
      | some hi' =>
        rw [e3] at ht
        replace ht : dSl x lo' hi' = some d := ht
        refine PE.b (pe_slice (sl_list.or (sl_tupA.or sl_str)) (best_pe X a) (bestO_po X lo) (bestO_po X hi)) ?_
        refine ha.run B G0 E σ H G x _ I e1 fun v H1 G1 x1 d1 => ?_
        refine hl.run B G0 E σ H1 G1 lo' (I.ext x1) e2 _ fun H2 G2 x2 => ?_
        refine hu.run B G0 E σ H2 G2 hi' ((I.ext x1).ext x2) e3 _ fun H3 G3 x3 => ?_
        have d3 := (d1.ext x2).ext x3
        have xx := (x1.trans x2).trans x3
        have s := x3.s
        unfold dSl at ht
        split at ht
        · cases ht
          obtain ⟨p, xs, rfl, h1, h2⟩ := d3.tuple s
          have hl := h2.length
          refine .inr (.inl ⟨p, xs, rfl, h1, fun hw => ?_, fun hw r hr => ?_⟩)
          · rw [hl] at hw
            rw [cutD_whole _ _ _ hw] at q
            rcases d3 with hb | ⟨_, _, _, _, e, _⟩
            · exact q _ H3 G3 xx hb
            · cases e
          · exact q _ _ _ (xx.trans (.new s hr)) (.tup (.inl (.inl upd_same)) ((DpAll.cut h2 lo' hi').mo (same_upd (s.free hr))))
        · rename_i z
          cases ez : chkS z with
          | none => rw [ez] at ht; cases ht
          | some z' =>
            rw [ez] at ht
            cases ht
            exact .inr (.inr ⟨_, d3.str, (chkS_some ez).1, q _ H3 G3 xx (.str _)⟩)
        · cases ht
          obtain ⟨p, xs, rfl, h1, h2⟩ := d3.list s
          exact .inl ⟨p, xs, rfl, h1, fun r hr => q _ _ _ (xx.trans (.new s hr)) (.lst (.inl (.inl upd_same)) ((DpAll.cut h2 lo' hi').mo (same_upd (s.free hr))))⟩
        · cases ht⟩
end

/-! ### built-in functions -/
/-- the built-in names are free -/
structure Bt (mg : Str → Option Value) : Prop where
  len : mg "len" = none
  range : mg "range" = none
  sum : mg "sum" = none
  sorted : mg "sorted" = none
  tuple : mg "tuple" = none
  list : mg "list" = none
  int : mg "int" = none
  bool : mg "bool" = none
  str : mg "str" = none
  dict : mg "dict" = none
  isinstance : mg "isinstance" = none
  max : mg "max" = none
  min : mg "min" = none
  all : mg "all" = none
  abs : mg "abs" = none
  enumerate : mg "enumerate" = none
  reversed : mg "reversed" = none
/-- a call of a built-in: one rule over data -/
def CallD (X : Cx) (f : Value) (g : List PyData → Option PyData) : Prop :=
  ∃ r : List V → Hp → VK → Prop, CallR X f r ∧ ∀ (H G : Hp) (vs : List V) (ds : List PyData) (d : PyData) (Q : VK), Same G H → SmAll X.K H G vs ds → g ds = some d → (∀ v H' G', Ext H G H' G' → Dp X.K G' v d → Q v H') → r vs H Q
def eCb (g : List PyData → Option PyData) (t : En → Option (List PyData)) (E : En) : Option PyData := (t E).bind g
section
variable {X : Cx} {x : Str} {p pos : Pos} {e : Expr} {es : List Expr} {t : En → Option (List PyData)} {id T : String} {g : List PyData → Option PyData}
theorem de_cb (hc : CallD X (.builtin id) g) (hm : X.mg x = none) (ha : DAs X (e :: es) t) (hg : Gl X x := by rfl) (hv : bootBuiltins x = some (.builtin id) := by decide +kernel) (hn : x ≠ "__name__" := by decide) (hdb : (x == ("__debug__" : Str)) = false := by decide)
    (he : starEach (e :: es) X.env = (false, eval e X.env) :: starEach es X.env := by rfl) (hpl : (backTo pos (starEach es X.env)).any (·.1) = false := by rfl) : DE X (.Call (.Name x p) (e :: es) [] pos) (eCb g t) := by
  obtain ⟨r, hr, hd⟩ := hc
  refine ⟨fun B G0 E σ H G d Q I ht q => ?_⟩
  unfold eCb at ht
  cases et : t E with
  | none => rw [et] at ht; cases ht
  | some ds =>
    rw [et] at ht
    refine PE.b (pe_callB hr hg hm hv (bestA_pa X _) hn hdb he hpl) ?_
    exact ha.run B G0 E σ H G ds _ I et fun vs H1 G1 x1 d1 => hd H1 G1 vs ds d Q x1.s d1 ht fun v H2 G2 x2 => q v H2 G2 (x1.trans x2)
theorem de_ct (hc : CallD X (.type T) g) (hm : X.mg x = none) (ha : DAs X (e :: es) t) (hg : Gl X x := by rfl) (hv : bootBuiltins x = some (.type T) := by decide +kernel) (hn : x ≠ "__name__" := by decide) (hdb : (x == ("__debug__" : Str)) = false := by decide)
    (he : starEach (e :: es) X.env = (false, eval e X.env) :: starEach es X.env := by rfl) (hpl : (backTo pos (starEach es X.env)).any (·.1) = false := by rfl) : DE X (.Call (.Name x p) (e :: es) [] pos) (eCb g t) := by
  obtain ⟨r, hr, hd⟩ := hc
  refine ⟨fun B G0 E σ H G d Q I ht q => ?_⟩
  unfold eCb at ht
  cases et : t E with
  | none => rw [et] at ht; cases ht
  | some ds =>
    rw [et] at ht
    refine PE.b (pe_callTy hr hg hm hv (bestA_pa X _) hn hdb he hpl) ?_
    exact ha.run B G0 E σ H G ds _ I et fun vs H1 G1 x1 d1 => hd H1 G1 vs ds d Q x1.s d1 ht fun v H2 G2 x2 => q v H2 G2 (x1.trans x2)
/-- .. whose answer is a new list -/
def CallF (X : Cx) (f : Value) (g : List PyData → Option (List PyData)) : Prop :=
  ∃ r : List V → Hp → VK → Prop, CallR X f r ∧ ∀ (H G : Hp) (vs : List V) (ds : List PyData) (d : List PyData) (Q : VK), Same G H → SmAll X.K H G vs ds → g ds = some d → (∀ p xs H' G', Ext H G H' G' → H p = none → H' p = some (.lst xs) → G' p = none → DpAll X.K G' xs d → Q (.ref p) H') → r vs H Q
def eCf (g : List PyData → Option (List PyData)) (t : En → Option (List PyData)) (E : En) : Option (List PyData) := (t E).bind g
theorem df_cb {g : List PyData → Option (List PyData)} (hc : CallF X (.builtin id) g) (hm : X.mg x = none) (ha : DAs X (e :: es) t) (hg : Gl X x := by rfl) (hv : bootBuiltins x = some (.builtin id) := by decide +kernel) (hn : x ≠ "__name__" := by decide) (hdb : (x == ("__debug__" : Str)) = false := by decide)
    (he : starEach (e :: es) X.env = (false, eval e X.env) :: starEach es X.env := by rfl) (hpl : (backTo pos (starEach es X.env)).any (·.1) = false := by rfl) : DF X (.Call (.Name x p) (e :: es) [] pos) (eCf g t) := by
  obtain ⟨r, hr, hd⟩ := hc
  refine ⟨fun B G0 E σ H G d Q I ht q => ?_⟩
  unfold eCf at ht
  cases et : t E with
  | none => rw [et] at ht; cases ht
  | some ds =>
    rw [et] at ht
    refine PE.b (pe_callB hr hg hm hv (bestA_pa X _) hn hdb he hpl) ?_
    exact ha.run B G0 E σ H G ds _ I et fun vs H1 G1 x1 d1 => hd H1 G1 vs ds d Q x1.s d1 ht fun p xs H2 G2 x2 h2 => q p xs H2 G2 (x1.trans x2) (x1.h.free h2)
theorem df_ct {g : List PyData → Option (List PyData)} (hc : CallF X (.type T) g) (hm : X.mg x = none) (ha : DAs X (e :: es) t) (hg : Gl X x := by rfl) (hv : bootBuiltins x = some (.type T) := by decide +kernel) (hn : x ≠ "__name__" := by decide) (hdb : (x == ("__debug__" : Str)) = false := by decide)
    (he : starEach (e :: es) X.env = (false, eval e X.env) :: starEach es X.env := by rfl) (hpl : (backTo pos (starEach es X.env)).any (·.1) = false := by rfl) : DF X (.Call (.Name x p) (e :: es) [] pos) (eCf g t) := by
  obtain ⟨r, hr, hd⟩ := hc
  refine ⟨fun B G0 E σ H G d Q I ht q => ?_⟩
  unfold eCf at ht
  cases et : t E with
  | none => rw [et] at ht; cases ht
  | some ds =>
    rw [et] at ht
    refine PE.b (pe_callTy hr hg hm hv (bestA_pa X _) hn hdb he hpl) ?_
    exact ha.run B G0 E σ H G ds _ I et fun vs H1 G1 x1 d1 => hd H1 G1 vs ds d Q x1.s d1 ht fun p xs H2 G2 x2 h2 => q p xs H2 G2 (x1.trans x2) (x1.h.free h2)
end
theorem SmAll.one {K : PySem.W.Frag} {H G : Hp} {vs : List V} {d : PyData} (h : SmAll K H G vs [d]) : ∃ v, vs = [v] ∧ Sm K H G v d := by
  cases h with
  | cons h1 h2 => cases h2; exact ⟨_, rfl, h1⟩
theorem SmAll.two {K : PySem.W.Frag} {H G : Hp} {vs : List V} {d e : PyData} (h : SmAll K H G vs [d, e]) : ∃ v u, vs = [v, u] ∧ Sm K H G v d ∧ Sm K H G u e := by
  cases h with
  | cons h1 h2 =>
    obtain ⟨u, rfl, h3⟩ := h2.one
    exact ⟨_, _, rfl, h1, h3⟩
/-- a list of iL, of bL -/
def iL : List PyData → Option (List Int)
  | [] => some []
  | .int i :: r => (iL r).map (i :: ·)
  | _ => none
def bL : List PyData → Option (List Bool)
  | [] => some []
  | .bool i :: r => (bL r).map (i :: ·)
  | _ => none
theorem iL_some : ∀ {ds : List PyData} {ns : List Int}, iL ds = some ns → ds = ns.map .int
  | [], ns, h => by cases h; rfl
  | d :: r, ns, h => by
    cases d with
    | int i =>
      replace h : (iL r).map (i :: ·) = some ns := h
      cases e : iL r with
      | none => rw [e] at h; cases h
      | some ms =>
        rw [e] at h
        cases h
        rw [iL_some e]
        rfl
    | _ => cases h
theorem iL_map : ∀ ns : List Int, iL (ns.map .int) = some ns
  | [] => rfl
  | n :: r => by
    show (iL (r.map .int)).map (n :: ·) = some (n :: r)
    rw [iL_map r]
    rfl
theorem bL_some : ∀ {ds : List PyData} {ns : List Bool}, bL ds = some ns → ds = ns.map .bool
  | [], ns, h => by cases h; rfl
  | d :: r, ns, h => by
    cases d with
    | bool i =>
      replace h : (bL r).map (i :: ·) = some ns := h
      cases e : bL r with
      | none => rw [e] at h; cases h
      | some ms =>
        rw [e] at h
        cases h
        rw [bL_some e]
        rfl
    | _ => cases h
theorem bL_map : ∀ ns : List Bool, bL (ns.map .bool) = some ns
  | [] => rfl
  | n :: r => by
    show (bL (r.map .bool)).map (n :: ·) = some (n :: r)
    rw [bL_map r]
    rfl
theorem DpAll.intL {K : PySem.W.Frag} {G : Hp} : ∀ {vs : List V} {ns : List Int}, DpAll K G vs (ns.map .int) → vs = ns.map V.int
  | _, [], h => by cases h; rfl
  | _, n :: r, h => by
    cases h with
    | cons h1 h2 =>
      cases h1
      rw [DpAll.intL h2]
      rfl
theorem DpAll.ofInts {K : PySem.W.Frag} {G : Hp} : ∀ ns : List Int, DpAll K G (ns.map V.int) (ns.map .int)
  | [] => .nil
  | n :: r => .cons (.int n) (DpAll.ofInts r)
theorem DpAll.boolL {K : PySem.W.Frag} {G : Hp} : ∀ {vs : List V} {ns : List Bool}, DpAll K G vs (ns.map .bool) → vs = ns.map V.bl
  | _, [], h => by cases h; rfl
  | _, n :: r, h => by
    cases h with
    | cons h1 h2 =>
      cases h1
      rw [DpAll.boolL h2]
      rfl
section
variable {X : Cx}
def dLen : List PyData → Option PyData
  | [.list xs] => some (.int xs.length)
  | [.tuple xs] => some (.int xs.length)
  | [.str x] => (chkS x).map fun _ => .int x.length
  | _ => none
theorem c_len : CallD X (.builtin "len") dLen := ⟨_, call_len, fun H G vs ds d Q s ha e q => by
  unfold dLen at e
  split at e
  · cases e
    obtain ⟨v, rfl, h⟩ := ha.one
    obtain ⟨p, xs, rfl, h1, h2⟩ := h.list s
    exact ⟨_, _, rfl, .inl ⟨xs, h1, h2.length.symm⟩, q _ H G (.refl s) (.int _)⟩
  · cases e
    obtain ⟨v, rfl, h⟩ := ha.one
    obtain ⟨p, xs, rfl, h1, h2⟩ := h.tuple s
    exact ⟨_, _, rfl, .inr ⟨xs, h1, h2.length.symm⟩, q _ H G (.refl s) (.int _)⟩
  · rename_i x
    cases ez : chkS x with
    | none => rw [ez] at e; cases e
    | some z' =>
      rw [ez] at e
      cases e
      obtain ⟨v, rfl, h⟩ := ha.one
      rw [h.str]
      exact ⟨_, _, rfl, ⟨(chkS_some ez).1, rfl⟩, q _ H G (.refl s) (.int _)⟩
  · cases e⟩
def dInt : List PyData → Option PyData
  | [.int i] => some (.int i)
  | [.bool b] => some (.int (if b then 1 else 0))
  | _ => none
theorem c_int : CallD X (.type "int") dInt := ⟨_, call_int1, fun H G vs ds d Q s ha e q => by
  unfold dInt at e
  split at e
  · cases e
    obtain ⟨v, rfl, h⟩ := ha.one
    rw [h.int]
    exact .inl ⟨_, rfl, q _ H G (.refl s) (.int _)⟩
  · cases e
    obtain ⟨v, rfl, h⟩ := ha.one
    rw [h.bool]
    exact .inr ⟨_, rfl, q _ H G (.refl s) (.int _)⟩
  · cases e⟩
def dStrI : List PyData → Option PyData
  | [.int i] => if i.natAbs.log2 < 1920 then some (.str (toString i)) else none
  | _ => none
theorem c_strI : CallD X (.type "str") dStrI := ⟨_, call_str_int, fun H G vs ds d Q s ha e q => by
  unfold dStrI at e
  split at e
  · split at e
    · rename_i hz
      cases e
      obtain ⟨v, rfl, h⟩ := ha.one
      rw [h.int]
      exact ⟨_, rfl, hz, q _ H G (.refl s) (.str _)⟩
    · cases e
  · cases e⟩
def dAbs : List PyData → Option PyData
  | [.int i] => some (.int (if i < 0 then -i else i))
  | _ => none
theorem c_abs : CallD X (.builtin "abs") dAbs := ⟨_, call_abs, fun H G vs ds d Q s ha e q => by
  unfold dAbs at e
  split at e
  · cases e
    obtain ⟨v, rfl, h⟩ := ha.one
    rw [h.int]
    exact ⟨_, rfl, q _ H G (.refl s) (.int _)⟩
  · cases e⟩
def dTup : List PyData → Option PyData
  | [.list xs] => some (.tuple xs)
  | [.tuple xs] => some (.tuple xs)
  | _ => none
theorem c_tup : CallD X (.type "tuple") dTup := ⟨_, call_tuple_of, fun H G vs ds d Q s ha e q => by
  unfold dTup at e
  split at e
  · cases e
    obtain ⟨v, rfl, h⟩ := ha.one
    obtain ⟨p, xs, rfl, h1, h2⟩ := h.list s
    exact ⟨_, _, rfl, .inl ⟨h1, fun r hr => q _ _ _ (.new s hr) (.tup (.inl (.inl upd_same)) (h2.mo (same_upd (s.free hr))))⟩⟩
  · cases e
    obtain ⟨v, rfl, h⟩ := ha.one
    obtain ⟨p, xs, rfl, h1, h2⟩ := id (h.tuple s)
    refine ⟨_, _, rfl, .inr ⟨h1, ?_⟩⟩
    rcases h with hb | ⟨_, _, _, _, e, _⟩
    · exact q _ H G (.refl s) hb
    · cases e
  · cases e⟩
def dList : List PyData → Option (List PyData)
  | [.list xs] => some xs
  | [.tuple xs] => some xs
  | _ => none
theorem c_list : CallF X (.type "list") dList := ⟨_, call_list_of, fun H G vs ds d Q s ha e q => by
  unfold dList at e
  split at e
  · cases e
    obtain ⟨v, rfl, h⟩ := ha.one
    obtain ⟨p, xs, rfl, h1, h2⟩ := h.list s
    exact ⟨_, _, rfl, .inl h1, fun r hr => q r xs _ G (.newO s hr) hr upd_same (s.free hr) h2⟩
  · cases e
    obtain ⟨v, rfl, h⟩ := ha.one
    obtain ⟨p, xs, rfl, h1, h2⟩ := h.tuple s
    exact ⟨_, _, rfl, .inr h1, fun r hr => q r xs _ G (.newO s hr) hr upd_same (s.free hr) h2⟩
  · cases e⟩
/-- sorted, of iL -/
def insI (x : Int) : List Int → List Int
  | [] => [x]
  | y :: r => if x ≤ y then x :: y :: r else y :: insI x r
def sortI : List Int → List Int
  | [] => []
  | x :: r => insI x (sortI r)
theorem insI_perm (x : Int) : ∀ l, (insI x l).Perm (x :: l)
  | [] => .refl _
  | y :: r => by
    unfold insI
    split
    · exact .refl _
    · exact ((insI_perm x r).cons y).trans (.swap x y r)
theorem sortI_perm : ∀ l, (sortI l).Perm l
  | [] => .refl _
  | x :: r => (insI_perm x (sortI r)).trans ((sortI_perm r).cons x)
theorem insI_sorted (x : Int) : ∀ {l : List Int}, l.Pairwise (· ≤ ·) → (insI x l).Pairwise (· ≤ ·)
  | [], _ => by simp [insI]
  | y :: r, h => by
    unfold insI
    rw [List.pairwise_cons] at h
    split
    · rename_i hx
      rw [List.pairwise_cons]
      refine ⟨fun z hz => ?_, List.pairwise_cons.mpr h⟩
      rcases List.mem_cons.mp hz with rfl | hz
      · exact hx
      · have := h.1 z hz
        omega
    · rename_i hx
      rw [List.pairwise_cons]
      refine ⟨fun z hz => ?_, insI_sorted x h.2⟩
      rcases List.mem_cons.mp ((insI_perm x r).mem_iff.mp hz) with rfl | hz
      · omega
      · exact h.1 z hz
theorem sortI_sorted : ∀ l, (sortI l).Pairwise (· ≤ ·)
  | [] => .nil
  | x :: r => insI_sorted x (sortI_sorted r)
theorem sorted_uniq : ∀ {l m : List Int}, l.Pairwise (· ≤ ·) → m.Pairwise (· ≤ ·) → l.Perm m → l = m := fun {l m} hl hm p =>
  p.eq_of_pairwise (fun a b _ _ h1 h2 => by omega) hl hm
def dSortI : List PyData → Option (List PyData)
  | [.list xs] => (iL xs).map fun ns => (sortI ns).map .int
  | _ => none
theorem c_sortI : CallF X (.builtin "sorted") dSortI := ⟨_, cr_sortedI, fun H G vs ds d Q s ha e q => by
  unfold dSortI at e
  split at e
  · rename_i xs
    cases ei : iL xs with
    | none => rw [ei] at e; cases e
    | some ns =>
      rw [ei] at e
      cases e
      obtain rfl := iL_some ei
      obtain ⟨v, rfl, h⟩ := ha.one
      obtain ⟨p, xs, rfl, h1, h2⟩ := h.list s
      obtain rfl := DpAll.intL h2
      refine ⟨p, ns, rfl, h1, fun ns' r p1 p2 hr => ?_⟩
      obtain rfl : ns' = sortI ns := sorted_uniq p2 (sortI_sorted ns) (p1.trans (sortI_perm ns).symm)
      exact q r _ _ G (.newO s hr) hr upd_same (s.free hr) (DpAll.ofInts _)
  · cases e⟩
/-- all, any of bL -/
def dAll : List PyData → Option PyData
  | [.list xs] => (bL xs).map fun bs => .bool (bs.all id)
  | _ => none
theorem c_all (hc : X.calm = true) : CallD X (.builtin "all") dAll := ⟨_, cr_all hc, fun H G vs ds d Q s ha e q => by
  unfold dAll at e
  split at e
  · rename_i xs
    cases ei : bL xs with
    | none => rw [ei] at e; cases e
    | some ns =>
      rw [ei] at e
      cases e
      obtain rfl := bL_some ei
      obtain ⟨v, rfl, h⟩ := ha.one
      obtain ⟨p, xs, rfl, h1, h2⟩ := h.list s
      obtain rfl := DpAll.boolL h2
      exact ⟨p, ns, rfl, h1, q _ H G (.refl s) (.bl _)⟩
  · cases e⟩
/-- max, min of two iL; of a list -/
def dMax : List PyData → Option PyData
  | [.int i, .int j] => some (.int (if j > i then j else i))
  | [.list xs] => (iL xs).bind fun ns => match ns with
    | [] => none
    | n :: r => some (.int (r.foldl max n))
  | _ => none
def dMin : List PyData → Option PyData
  | [.int i, .int j] => some (.int (if j < i then j else i))
  | [.list xs] => (iL xs).bind fun ns => match ns with
    | [] => none
    | n :: r => some (.int (r.foldl min n))
  | _ => none
theorem foldl_max (r : List Int) : ∀ n : Int, (r.foldl max n = n ∨ r.foldl max n ∈ r) ∧ n ≤ r.foldl max n ∧ ∀ y ∈ r, y ≤ r.foldl max n := by
  induction r with
  | nil => intro n; exact ⟨.inl rfl, Int.le_refl _, fun y hy => by cases hy⟩
  | cons x r ih =>
    intro n
    obtain ⟨h1, h2, h3⟩ := ih (max n x)
    refine ⟨?_, ?_, fun y hy => ?_⟩
    · show r.foldl max (max n x) = n ∨ r.foldl max (max n x) ∈ x :: r
      rcases h1 with h1 | h1
      · rw [h1]
        by_cases hx : n ≤ x
        · exact .inr (by rw [Int.max_eq_right hx]; exact List.mem_cons_self)
        · exact .inl (Int.max_eq_left (by omega))
      · exact .inr (List.mem_cons_of_mem _ h1)
    · show n ≤ r.foldl max (max n x)
      omega
    · show y ≤ r.foldl max (max n x)
      rcases List.mem_cons.mp hy with rfl | hy
      · omega
      · exact h3 y hy
theorem foldl_min (r : List Int) : ∀ n : Int, (r.foldl min n = n ∨ r.foldl min n ∈ r) ∧ r.foldl min n ≤ n ∧ ∀ y ∈ r, r.foldl min n ≤ y := by
  induction r with
  | nil => intro n; exact ⟨.inl rfl, Int.le_refl _, fun y hy => by cases hy⟩
  | cons x r ih =>
    intro n
    obtain ⟨h1, h2, h3⟩ := ih (min n x)
    refine ⟨?_, ?_, fun y hy => ?_⟩
    · show r.foldl min (min n x) = n ∨ r.foldl min (min n x) ∈ x :: r
      rcases h1 with h1 | h1
      · rw [h1]
        by_cases hx : n ≤ x
        · exact .inl (Int.min_eq_left hx)
        · exact .inr (by rw [Int.min_eq_right (by omega)]; exact List.mem_cons_self)
      · exact .inr (List.mem_cons_of_mem _ h1)
    · show r.foldl min (min n x) ≤ n
      omega
    · show r.foldl min (min n x) ≤ y
      rcases List.mem_cons.mp hy with rfl | hy
      · omega
      · exact h3 y hy
theorem c_max (hc : X.calm = true) : CallD X (.builtin "max") dMax := ⟨_, CallR.or (call_max2 hc) (cr_max hc), fun H G vs ds d Q s ha e q => by
  unfold dMax at e
  split at e
  · cases e
    obtain ⟨v, u, rfl, h, h'⟩ := ha.two
    rw [h.int, h'.int]
    exact .inl ⟨_, _, rfl, q _ H G (.refl s) (.int _)⟩
  · rename_i xs
    cases ei : iL xs with
    | none => rw [ei] at e; cases e
    | some ns =>
      rw [ei] at e
      cases ns with
      | nil => cases e
      | cons n r =>
        cases e
        obtain rfl := iL_some ei
        obtain ⟨v, rfl, h⟩ := ha.one
        obtain ⟨p, xs, rfl, h1, h2⟩ := h.list s
        obtain rfl := DpAll.intL h2
        refine .inr ⟨p, n :: r, rfl, h1, by simp, fun m hm hy => ?_⟩
        obtain ⟨g1, g2, g3⟩ := foldl_max r n
        have : m = r.foldl max n := by
          have a1 : r.foldl max n ≤ m := by
            rcases g1 with g1 | g1
            · rw [g1]; exact hy n List.mem_cons_self
            · exact hy _ (List.mem_cons_of_mem _ g1)
          have a2 : m ≤ r.foldl max n := by
            rcases List.mem_cons.mp hm with rfl | hm
            · exact g2
            · exact g3 m hm
          omega
        subst this
        exact q _ H G (.refl s) (.int _)
  · cases e⟩
theorem c_min (hc : X.calm = true) : CallD X (.builtin "min") dMin := ⟨_, CallR.or (call_min2 hc) (cr_min hc), fun H G vs ds d Q s ha e q => by
  unfold dMin at e
  split at e
  · cases e
    obtain ⟨v, u, rfl, h, h'⟩ := ha.two
    rw [h.int, h'.int]
    exact .inl ⟨_, _, rfl, q _ H G (.refl s) (.int _)⟩
  · rename_i xs
    cases ei : iL xs with
    | none => rw [ei] at e; cases e
    | some ns =>
      rw [ei] at e
      cases ns with
      | nil => cases e
      | cons n r =>
        cases e
        obtain rfl := iL_some ei
        obtain ⟨v, rfl, h⟩ := ha.one
        obtain ⟨p, xs, rfl, h1, h2⟩ := h.list s
        obtain rfl := DpAll.intL h2
        refine .inr ⟨p, n :: r, rfl, h1, by simp, fun m hm hy => ?_⟩
        obtain ⟨g1, g2, g3⟩ := foldl_min r n
        have : m = r.foldl min n := by
          have a1 : m ≤ r.foldl min n := by
            rcases g1 with g1 | g1
            · rw [g1]; exact hy n List.mem_cons_self
            · exact hy _ (List.mem_cons_of_mem _ g1)
          have a2 : r.foldl min n ≤ m := by
            rcases List.mem_cons.mp hm with rfl | hm
            · exact g2
            · exact g3 m hm
          omega
        subst this
        exact q _ H G (.refl s) (.int _)
  · cases e⟩
/-- sum, of a list or tuple of iL -/
theorem sum_rawT {prog : Program} {w : World} {A : Around} {E : Value → Shared → Prop} {s : Shared} {l : Addr} {its : List Value} {ns : List Int} {Q : Value → Shared → Prop} (hh : A.handled = none) (hl : IsTup s.heap l its.toArray) (hi : IntsAre its ns)
    (h : ∀ h' tk t', (∀ b o, s.heap.get? b = some o → h'.get? b = some o) → Q (.int ns.sum t') { s with heap := h', toks := tk }) : wpAny (model prog w) A (call (.builtin "sum") [.ref l]) Q E s := by
  obtain ⟨xs, e⟩ := hi.allInts.items
  have hn : numsOf (intItems xs).toList = ns := by rw [← e]; exact hi.numsOf
  rw [nums_intItems] at hn
  rw [e] at hl
  have hlt : l < s.heap.objs.size := hl.lt
  refine call_sum_walkG (wpAny_pyIter_tuple (show s.heap.IsTuple l (intItems xs) from hl) ?_)
  refine ⟨_, [_, l], [_], _, _, _, numAt xs, rfl, Walks.tuple (A := A.in1) hh s.heap.objs.size l (Nat.ne_of_lt hlt) (intItems xs), ⟨⟨_, Heap.get?_push_size _ rfl, rfl, rfl⟩, ?_⟩, ?_, (fun _ _ => intItems_at), fun h' tk t' hk => ?_⟩
  · obtain ⟨o, ho, hc, n, hd⟩ := hl
    exact ⟨o, Heap.get?_push_of_some _ ho, hc, n, hd⟩
  · intro b hb
    rcases List.mem_cons.mp hb with rfl | hb
    · rw [Heap.size_push]; exact Nat.lt_succ_self _
    · rw [List.mem_singleton] at hb
      subst hb
      rw [Heap.size_push]
      exact Nat.lt_succ_of_lt hlt
  · have := h h' tk t' fun b o q => hk b o (fun z => by
      rw [List.mem_singleton] at z
      subst z
      exact absurd (Heap.lt_size q) (Nat.lt_irrefl _)) (Heap.get?_push_of_some _ q)
    rw [preSum_eq, List.take_of_length_le (by simp [intItems]), hn]
    exact this
def rSumT (K : PySem.W.Frag) : List V → Hp → VK → Prop := fun vs H Q => ∃ (a : Addr) (ns : List Int), vs = [V.ref a] ∧ SqT K H a (ns.map V.int) ∧ Q (.int ns.sum) H
theorem cr_sumT (hc : X.calm = true) : CallR X (.builtin "sum") (rSumT X.K) := by
  intro pins s σ H vs us Q I r h
  obtain ⟨a, ns, rfl, hs, q⟩ := h
  obtain ⟨its, rv, hl, _⟩ := I.tuple hs
  rw [Vals.ref1 r]
  exact sum_rawT (I.ok.hd hc) hl rv.ints fun h' tk t' hk => ⟨.int _, H, I.kept hk, ⟨_, rfl⟩, q⟩
def dSum : List PyData → Option PyData
  | [.list xs] => (iL xs).map fun ns => .int ns.sum
  | [.tuple xs] => (iL xs).map fun ns => .int ns.sum
  | _ => none
theorem c_sum (hc : X.calm = true) : CallD X (.builtin "sum") dSum := ⟨_, CallR.or (cr_sum hc) (cr_sumT hc), fun H G vs ds d Q s ha e q => by
  unfold dSum at e
  split at e
  · rename_i xs
    cases ei : iL xs with
    | none => rw [ei] at e; cases e
    | some ns =>
      rw [ei] at e
      cases e
      obtain rfl := iL_some ei
      obtain ⟨v, rfl, h⟩ := ha.one
      obtain ⟨p, xs, rfl, h1, h2⟩ := h.list s
      obtain rfl := DpAll.intL h2
      exact .inl ⟨p, ns, rfl, h1, q _ H G (.refl s) (.int _)⟩
  · rename_i xs
    cases ei : iL xs with
    | none => rw [ei] at e; cases e
    | some ns =>
      rw [ei] at e
      cases e
      obtain rfl := iL_some ei
      obtain ⟨v, rfl, h⟩ := ha.one
      obtain ⟨p, xs, rfl, h1, h2⟩ := h.tuple s
      obtain rfl := DpAll.intL h2
      exact .inr ⟨p, ns, rfl, h1, q _ H G (.refl s) (.int _)⟩
  · cases e⟩
end

/-! ### isinstance -/
def tyD : PyData → String
  | .none => "NoneType"
  | .bool _ => "bool"
  | .int _ => "int"
  | .str _ => "str"
  | .list _ => "list"
  | .tuple _ => "tuple"
  | .dict _ => "dict"
theorem TyX.lst {K : PySem.W.Frag} {H : Hp} {a : Addr} {xs : List V} (h : SqL K H a xs) : TyX K H (.ref a) (.type "list") := by
  rcases h with (h | ⟨o, h⟩) | ⟨o, its, n, h, hc, _⟩
  · exact .base (.lst h)
  · exact .base (.frz h)
  · exact .kList h hc
theorem TyX.tup {K : PySem.W.Frag} {H : Hp} {a : Addr} {xs : List V} (h : SqT K H a xs) : TyX K H (.ref a) (.type "tuple") := by
  rcases h with (h | ⟨o, h⟩) | ⟨o, its, n, h, hc, _⟩
  · exact .base (.tup h)
  · exact .fTuple h
  · exact .kTuple h hc
/-- a dict with tuple keys, locked -/
def Lkd (H : Hp) (v : V) (d : PyData) : Prop := ∃ a o kvs ws, v = .ref a ∧ H a = some (.frz o (.dT kvs)) ∧ d = .dict ws
theorem Dp.ty {K : PySem.W.Frag} {H : Hp} {v : V} {d : PyData} (h : Dp K H v d) : TyX K H v (.type (tyD d)) ∨ Lkd H v d := by
  cases h with
  | non => exact .inl (.base .non)
  | bl b => exact .inl (.base (.bl b))
  | int i => exact .inl (.base (.int i))
  | str x => exact .inl (.base (.str x))
  | lst hs ha => exact .inl (TyX.lst hs)
  | tup hs ha => exact .inl (TyX.tup hs)
  | dk hs _ _ =>
    rcases hs with hs | ⟨o, hs⟩
    · exact .inl (.base (.dK hs))
    · exact .inl (.fDict hs)
  | dt hs _ _ =>
    rcases hs with hs | ⟨o, hs⟩
    · exact .inl (.base (.dT hs))
    · exact .inr ⟨_, o, _, _, rfl, hs, rfl⟩
def rIsiF (K : PySem.W.Frag) : List V → Hp → VK → Prop := fun xs H Q => ∃ (a : Addr) (o : Obj) (kvs : List (List Key × V)) (c : V) (u : Value) (b : Bool), xs = [.ref a, c] ∧ ClsV c u ∧ H a = some (.frz o (.dT kvs)) ∧ PySem.W.kitOne K (.type "dict") u = some b ∧ Q (.bl b) H
theorem call_isiF {X : Cx} : CallR X (.builtin "isinstance") (rIsiF X.K) := by
  intro pins s σ H xs us Q I r h
  obtain ⟨a, ob, kvs, c, u, b, rfl, k, ha, e, q⟩ := h
  obtain ⟨u1, u2, rfl, r1, r2⟩ := vals2 r
  obtain rfl := k.eq r2
  cases (show u1 = Value.ref a from r1)
  obtain ⟨_, _, _, xs, _, o, es, ep, h1, h2, _⟩ := (show ObjOk X.prog X.w H s.heap a (.frz ob (.dT kvs)) from I.hok a _ ha)
  refine PySem.W.kia_one PySem.W.kitx_dict I.kIn ⟨o, h1, h2.1⟩ e (fun z => nomatch z) fun tk => ⟨.bl b, H, I.tok tk, rfl, q⟩
def isD (T : String) (d : PyData) : Bool := (kitB (tyD d) T).getD false
/-- T is a class that isinstance is asked of -/
def IsT (T : String) : Prop := ∀ d, kitB (tyD d) T = some (isD T d)
theorem isT_of {T : String} (h : (["NoneType", "bool", "int", "str", "list", "tuple", "dict"].all fun n => (kitB n T).isSome) = true) : IsT T := fun d => by
  have : (kitB (tyD d) T).isSome = true := by
    rw [List.all_eq_true] at h
    exact h _ (by cases d <;> simp [tyD])
  unfold isD
  cases e : kitB (tyD d) T with
  | none => rw [e] at this; cases this
  | some b => rfl
theorem isT_int : IsT "int" := isT_of (by decide +kernel)
theorem isT_bool : IsT "bool" := isT_of (by decide +kernel)
theorem isT_tuple : IsT "tuple" := isT_of (by decide +kernel)
theorem isT_list : IsT "list" := isT_of (by decide +kernel)
theorem isT_str : IsT "str" := isT_of (by decide +kernel)
theorem isT_dict : IsT "dict" := isT_of (by decide +kernel)
section
variable {X : Cx} {a : Expr} {ta : En → Option PyData} {p p2 pos : Pos} {T : String} {tn : Str}
def eIsi (T : String) (t : En → Option PyData) (E : En) : Option PyData := (t E).bind fun d => some (.bool (isD T d))
theorem de_isi (hT : IsT T) (hm : X.mg "isinstance" = none) (hmT : X.mg tn = none) (ha : DS X a ta) (hg : Gl X "isinstance" := by rfl) (hgT : Gl X tn := by rfl) (hvT : bootBuiltins tn = some (.type T) := by decide +kernel) (hn : tn ≠ "__name__" := by decide) (hdb : (tn == ("__debug__" : Str)) = false := by decide)
    (he : starEach [a, .Name tn p2] X.env = (false, eval a X.env) :: starEach [.Name tn p2] X.env := by rfl) (he2 : starEach [.Name tn p2] X.env = (false, eval (.Name tn p2) X.env) :: starEach [] X.env := by rfl) (hpl : (backTo pos (starEach [.Name tn p2] X.env)).any (·.1) = false := by rfl) :
    DE X (.Call (.Name "isinstance" p) [a, .Name tn p2] [] pos) (eIsi T ta) := ⟨fun B G0 E σ H G d Q I ht q => by
  unfold eIsi at ht
  cases et : ta E with
  | none => rw [et] at ht; cases ht
  | some d1 =>
    rw [et] at ht
    cases ht
    refine PE.b (pe_callB (CallR.or call_isi call_isiF) hg hm (by decide +kernel) (pa_cons (best_pe X a) (pa_cons (pe_bltn (v := .ty T) hgT hmT hvT rfl hn hdb) pa_nil he2) he) (by decide) (by decide) he hpl) ?_
    refine ha.run B G0 E σ H G d1 _ I et fun v H1 G1 x1 h1 => ?_
    rcases Dp.ty (h1.dp x1.s) with ty | ⟨a, o, kvs, ws, rfl, hl, rfl⟩
    · exact .inl ⟨v, .ty T, _, _, _, rfl, .ty T, ty, kit_ty (hT d1), q _ H1 G1 x1 (.bl _)⟩
    · exact .inr ⟨a, o, kvs, .ty T, _, _, rfl, .ty T, hl, kit_ty (hT (.dict ws)), q _ H1 G1 x1 (.bl _)⟩⟩
end
end Pd

namespace Pd
open PySem PySem.Spec PyProof.Rows L2

/-! ### what is walked -/
/-- the walk J yields ds, in whatever later heap -/
def Wk (K : PySem.W.Frag) (J : It) (G1 : Hp) (ds : List PyData) : Prop := ∀ (i : Nat) (H G : Hp), Same G1 G → Same G H →
  (∀ d, ds[i]? = some d → J.go i H ∧ ∀ x H', J.yld i H x H' → ∃ G', Ext H G H' G' ∧ Dp K G' x d) ∧ (ds.length ≤ i → J.stop i H)
structure DI (X : Cx) (tg iter : Expr) (t : En → Option (List PyData)) : Prop where
  run : ∀ (B : Bs) (G0 : Hp) (E : En) (σ : SS) (H G : Hp) (ds : List PyData) (R : It → Hp → Prop), SI X.K B G0 E σ H G → t E = some ds → (∀ J H1 G1, Ext H G H1 G1 → Wk X.K J G1 ds → R J H1) → bestI X tg iter σ H R
def itD : PyData → Option (List PyData)
  | .list xs => some xs
  | .tuple xs => some xs
  | .str z => some (z.cps.toList.map fun c => .str ⟨#[c]⟩)
  | _ => none
def iSeq (t : En → Option PyData) (E : En) : Option (List PyData) := (t E).bind itD
section
variable {X : Cx} {tg a b : Expr} {pos p : Pos}
theorem wk_list {K : PySem.W.Frag} {G1 : Hp} {p : Addr} {xs : List V} {ds : List PyData} (h : SqL K G1 p xs) (hd : DpAll K G1 xs ds) : Wk K (Itl K p) G1 ds := fun i H G s1 s2 => by
  have hH : SqL K H p xs := s2.seq (s1.seq h)
  refine ⟨fun d e => ?_, fun hl => ⟨xs, hH, by rw [hd.length]; exact hl⟩⟩
  obtain ⟨v, e1, e2⟩ := hd.get e
  refine ⟨⟨xs, v, hH, e1⟩, fun x H' hy => ?_⟩
  obtain ⟨rfl, hy⟩ := hy
  have := hy xs hH
  rw [e1] at this
  cases this
  exact ⟨G, .refl s2, e2.mo s1⟩
theorem wk_tup {K : PySem.W.Frag} {G1 : Hp} {p : Addr} {xs : List V} {ds : List PyData} (h : SqT K G1 p xs) (hd : DpAll K G1 xs ds) : Wk K (Itt K p) G1 ds := fun i H G s1 s2 => by
  have hH : SqT K H p xs := Same.seqT s2 (Same.seqT s1 h)
  refine ⟨fun d e => ?_, fun hl => ⟨xs, hH, by rw [hd.length]; exact hl⟩⟩
  obtain ⟨v, e1, e2⟩ := hd.get e
  refine ⟨⟨xs, v, hH, e1⟩, fun x H' hy => ?_⟩
  obtain ⟨rfl, hy⟩ := hy
  have := hy xs hH
  rw [e1] at this
  cases this
  exact ⟨G, .refl s2, e2.mo s1⟩
theorem wk_str {K : PySem.W.Frag} {G1 : Hp} {z : Str} : Wk K (Its z) G1 (z.cps.toList.map fun c => .str ⟨#[c]⟩) := fun i H G s1 s2 => by
  refine ⟨fun d e => ?_, fun hl => by simpa [Its] using hl⟩
  rw [List.getElem?_map] at e
  cases ec : z.cps.toList[i]? with
  | none => rw [ec] at e; cases e
  | some c =>
    rw [ec] at e
    cases e
    have ec' : z.cps[i]? = some c := by rw [← Array.getElem?_toList]; exact ec
    refine ⟨(Array.getElem?_eq_some_iff.mp ec').1, fun x H' hy => ?_⟩
    obtain ⟨rfl, c', e1, rfl⟩ := hy
    rw [ec'] at e1
    cases e1
    exact ⟨G, .refl s2, .str _⟩
theorem di_seq {te : En → Option PyData} (h : DE X a te) : DI X tg a (iSeq te) := ⟨fun B G0 E σ H G ds R I ht q => by
  unfold iSeq at ht
  cases et : te E with
  | none => rw [et] at ht; cases ht
  | some d =>
    rw [et] at ht
    cases d with
    | list xs =>
      cases ht
      refine ⟨_, pi_list (best_pe X a), ?_⟩
      refine h.run B G0 E σ H G _ _ I et fun v H1 G1 x1 d1 => ?_
      cases d1 with
      | lst hs ha => exact ⟨_, rfl, ⟨_, x1.s.seq hs⟩, q _ H1 G1 x1 (wk_list hs ha)⟩
    | tuple xs =>
      cases ht
      refine ⟨_, pi_tup (best_pe X a), ?_⟩
      refine h.run B G0 E σ H G _ _ I et fun v H1 G1 x1 d1 => ?_
      cases d1 with
      | tup hs ha => exact ⟨_, rfl, ⟨_, Same.seqT x1.s hs⟩, q _ H1 G1 x1 (wk_tup hs ha)⟩
    | str z =>
      cases ht
      refine ⟨_, pi_str (best_pe X a), ?_⟩
      refine h.run B G0 E σ H G _ _ I et fun v H1 G1 x1 d1 => ?_
      cases d1
      exact ⟨z, rfl, q _ H1 G1 x1 wk_str⟩
    | _ => cases ht⟩
def rangeD (lo : Int) (n : Nat) : List PyData := (List.range n).map fun k => .int (lo + (k : Nat))
theorem wk_range {K : PySem.W.Frag} {G1 : Hp} {lo : Int} {n : Nat} : Wk K (Itr lo n) G1 (rangeD lo n) := fun i H G s1 s2 => by
  unfold rangeD
  refine ⟨fun d e => ?_, fun hl => by simpa [Itr] using hl⟩
  rw [List.getElem?_map] at e
  by_cases hi : i < n
  · rw [List.getElem?_range hi] at e
    cases e
    refine ⟨hi, fun x H' hy => ?_⟩
    obtain ⟨rfl, rfl⟩ := hy
    exact ⟨G, .refl s2, .int _⟩
  · rw [List.getElem?_eq_none (by simpa using Nat.le_of_not_lt hi)] at e
    cases e
def smallI (i : Int) : Bool := decide (-(2 ^ 62) ≤ i ∧ i < 2 ^ 62)
def rngD (m n : Int) : Option (List PyData) := if smallI m && smallI n then some (rangeD m (n - m).toNat) else none
theorem rngD_of {m n : Int} (h1 : -1000000 ≤ m) (h2 : m ≤ 1000000) (h3 : -1000000 ≤ n) (h4 : n ≤ 1000000) : rngD m n = some (rangeD m (n - m).toNat) := by
  have hm : smallI m = true := by
    unfold smallI
    rw [decide_eq_true_eq]
    omega
  have hn : smallI n = true := by
    unfold smallI
    rw [decide_eq_true_eq]
    omega
  unfold rngD
  rw [hm, hn]
  rfl
theorem rngD_some {m n : Int} {ds : List PyData} (h : rngD m n = some ds) : (-(2 ^ 62) ≤ m ∧ m < 2 ^ 62) ∧ (-(2 ^ 62) ≤ n ∧ n < 2 ^ 62) ∧ ds = rangeD m (n - m).toNat := by
  unfold rngD at h
  split at h
  · rename_i hs
    rw [Bool.and_eq_true] at hs
    unfold smallI at hs
    rw [decide_eq_true_eq, decide_eq_true_eq] at hs
    cases h
    exact ⟨hs.1, hs.2, rfl⟩
  · cases h
def iRange1 (t : En → Option PyData) (E : En) : Option (List PyData) := ((t E).bind iOf).bind fun n => rngD 0 n
def iRange2 (t u : En → Option PyData) (E : En) : Option (List PyData) := ((t E).bind iOf).bind fun m => ((u E).bind iOf).bind fun n => rngD m n
theorem iOf_bind {t : En → Option PyData} {E : En} {i : Int} (h : (t E).bind iOf = some i) : t E = some (.int i) := by
  cases e : t E with
  | none => rw [e] at h; cases h
  | some d =>
    rw [e] at h
    rw [iOf_some (show iOf d = some i from h)]
theorem di_range1 {ta : En → Option PyData} (hm : X.mg "range" = none) (ha : DS X a ta) (hg : Gl X "range" := by rfl) (hs : starEach [a] X.env = (false, eval a X.env) :: starEach [] X.env := by rfl) (hs' : starEach [a] X.env = [(false, eval a X.env)] := by rfl) : DI X tg (.Call (.Name "range" p) [a] [] pos) (iRange1 ta) := ⟨fun B G0 E σ H G ds R I ht q => by
  unfold iRange1 at ht
  cases ei : (ta E).bind iOf with
  | none => rw [ei] at ht; cases ht
  | some n =>
    rw [ei] at ht
    obtain ⟨_, hn, rfl⟩ := rngD_some (show rngD 0 n = some ds from ht)
    refine ⟨_, pi_range1 hg hm (pa_cons (best_pe X a) pa_nil hs) hs', ?_⟩
    refine ha.run B G0 E σ H G _ _ I (iOf_bind ei) fun v H1 G1 x1 d1 => ?_
    rw [Int.sub_zero] at q
    exact ⟨n, by rw [d1.int], hn.1, hn.2, q _ H1 G1 x1 wk_range⟩⟩
theorem di_range2 {ta tb : En → Option PyData} (hm : X.mg "range" = none) (ha : DS X a ta) (hb : DS X b tb) (hg : Gl X "range" := by rfl) (hs : starEach [a, b] X.env = (false, eval a X.env) :: starEach [b] X.env := by rfl) (hs2 : starEach [b] X.env = (false, eval b X.env) :: starEach [] X.env := by rfl)
    (hs' : starEach [a, b] X.env = [(false, eval a X.env), (false, eval b X.env)] := by rfl) (hs2' : starEach [b] X.env = [(false, eval b X.env)] := by rfl) : DI X tg (.Call (.Name "range" p) [a, b] [] pos) (iRange2 ta tb) := ⟨fun B G0 E σ H G ds R I ht q => by
  unfold iRange2 at ht
  cases ei : (ta E).bind iOf with
  | none => rw [ei] at ht; cases ht
  | some m =>
    rw [ei] at ht
    cases ej : (tb E).bind iOf with
    | none => rw [ej] at ht; cases ht
    | some n =>
      rw [ej] at ht
      obtain ⟨hm', hn', rfl⟩ := rngD_some (show rngD m n = some ds from ht)
      · refine ⟨_, pi_range2 hg hm (pa_cons (best_pe X a) (pa_cons (best_pe X b) pa_nil hs2) hs) hs' hs2', ?_⟩
        refine ha.run B G0 E σ H G _ _ I (iOf_bind ei) fun v H1 G1 x1 d1 => ?_
        refine hb.run B G0 E σ H1 G1 _ _ (I.ext x1) (iOf_bind ej) fun u H2 G2 x2 d2 => ?_
        exact ⟨m, n, by rw [d1.int, d2.int], ⟨hm'.1, hm'.2, hn'.1, hn'.2⟩, q _ H2 G2 (x1.trans x2) wk_range⟩⟩
end

/-! ### targets -/
def gN (i : Nat) (d : PyData) (E : En) : Option En := some (E.set i (.cl d))
def setAll : List Nat → List PyData → En → Option En
  | [], [], E => some E
  | i :: is, d :: ds, E => setAll is ds (E.set i (.cl d))
  | _, _, _ => none
def gT (is : List Nat) (d : PyData) (E : En) : Option En := match d with
  | .tuple ds => setAll is ds E
  | .list ds => setAll is ds E
  | _ => none
/-- a target's readings, one or the other -/
def gOr (t u : TG) : TG := fun v σ H Q => t v σ H Q ∨ u v σ H Q
theorem pg_or {X : Cx} {tg : Expr} {t u : TG} (h : PG X tg t) (g : PG X tg u) : PG X tg (gOr t u) := ⟨fun pins s σ H v w Q I r q => by
  rcases q with q | q
  · exact h.run pins s σ H v w Q I r q
  · exact g.run pins s σ H v w Q I r q⟩
def gSq (K : PySem.W.Frag) (n : Nat) (t : TGs) : TG := gOr (gTup K n t) (gUnl K n t)
def bestG (X : Cx) (tg : Expr) : TG := fun v σ H Q => ∃ t, PG X tg t ∧ t v σ H Q
theorem bestG_pg (X : Cx) (tg : Expr) : PG X tg (bestG X tg) := ⟨fun pins s σ H v u Q I r ⟨_, p, h⟩ => p.run pins s σ H v u Q I r h⟩
/-- the reading of a target; what is stored lies at the places is -/
def DGr (K : PySem.W.Frag) (is : List Nat) (g : PyData → En → Option En) (t : TG) : Prop :=
  ∀ (B : Bs) (G0 : Hp) (E E' : En) (σ : SS) (H G : Hp) (v : V) (d : PyData) (Q : SS → Hp → Prop), SI K B G0 E σ H G → Dp K G v d → g d E = some E' → (∀ σ', SI K B G0 E' σ' H G → (∀ τ, wipe σ is = wipe τ is → wipe σ' is = wipe τ is) → Q σ' H) → t v σ H Q
structure DG (X : Cx) (tg : Expr) (is : List Nat) (g : PyData → En → Option En) (t : TG) : Prop where
  pg : PG X tg t
  run : DGr X.K is g t
theorem wipe_set {σ : SS} {i : Nat} {o : Option V} : ∀ {is : List Nat}, i ∈ is → wipe (σ.set i o) is = wipe σ is
  | [], h => by cases h
  | j :: is, h => by
    unfold wipe
    by_cases hj : j = i
    · subst hj
      by_cases hi : j ∈ is
      · rw [wipe_set hi]
      · have : ∀ {is : List Nat} {σ : SS}, j ∉ is → wipe (σ.set j o) is = (wipe σ is).set j o := by
          intro is
          induction is with
          | nil => intro σ _; rfl
          | cons k is ih =>
            intro σ hk
            have hk1 : k ≠ j := fun e => hk (by rw [e]; exact List.mem_cons_self)
            have hk2 : j ∉ is := fun e => hk (List.mem_cons_of_mem _ e)
            unfold wipe
            rw [ih hk2, List.set_comm _ _ (Ne.symm hk1)]
        rw [this hi, List.set_set]
    · have hi : i ∈ is := by
        rcases List.mem_cons.mp h with e | h
        · exact absurd e.symm hj
        · exact h
      rw [wipe_set hi]
theorem dgr_name {K : PySem.W.Frag} (i : Nat) : DGr K [i] (gN i) (gName i) := fun B G0 E E' σ H G v d Q I hd ht q => by
  cases ht
  refine q _ (I.setC hd) fun τ h => ?_
  rw [wipe_set (List.mem_singleton.mpr rfl)]
  exact h
/-- several names -/
def gTN : List Nat → TGs
  | [] => gNil
  | i :: is => gCons (gName i) (gTN is)
theorem gTN_go {K : PySem.W.Frag} : ∀ {is : List Nat} {B : Bs} {G0 : Hp} {E E' : En} {σ : SS} {H G : Hp} {vs : List V} {ds : List PyData} {Q : SS → Hp → Prop} (_ : SI K B G0 E σ H G) (_ : DpAll K G vs ds) (_ : setAll is ds E = some E') {js : List Nat} (_ : ∀ i ∈ is, i ∈ js)
    (_ : ∀ σ', SI K B G0 E' σ' H G → (∀ τ, wipe σ js = wipe τ js → wipe σ' js = wipe τ js) → Q σ' H), gTN is vs σ H Q
  | [], B, G0, E, E', σ, H, G, vs, ds, Q, I, hd, ht, js, hj, q => by
    cases ds with
    | nil =>
      cases hd
      cases ht
      exact ⟨rfl, q σ I fun τ h => h⟩
    | cons d ds => cases ht
  | i :: is, B, G0, E, E', σ, H, G, vs, ds, Q, I, hd, ht, js, hj, q => by
    cases ds with
    | nil => cases ht
    | cons d ds =>
      cases hd with
      | cons h1 h2 =>
        refine ⟨_, _, rfl, ?_⟩
        refine gTN_go (is := is) (I.setC h1) h2 ht (js := js) (fun k hk => hj k (List.mem_cons_of_mem _ hk)) fun σ' I' hw => q σ' I' fun τ ht => hw τ ?_
        rw [wipe_set (hj i List.mem_cons_self)]
        exact ht
theorem setAll_len : ∀ {is : List Nat} {ds : List PyData} {E E' : En}, setAll is ds E = some E' → ds.length = is.length
  | [], [], _, _, _ => rfl
  | [], _ :: _, _, _, h => by cases h
  | _ :: _, [], _, _, h => by cases h
  | i :: is, d :: ds, E, E', h => by rw [List.length_cons, List.length_cons, setAll_len (show setAll is ds _ = some E' from h)]
theorem dgr_tup {K : PySem.W.Frag} (is : List Nat) : DGr K is (gT is) (gSq K is.length (gTN is)) := fun B G0 E E' σ H G v d Q I hd ht q => by
  unfold gT at ht
  cases hd with
  | tup hs ha =>
    rename_i a xs ds
    refine .inl ⟨a, xs, rfl, Same.seqT I.s hs, by rw [ha.length]; exact setAll_len ht, ?_⟩
    exact gTN_go I ha ht (fun i hi => hi) fun σ' I' hw => q σ' I' hw
  | lst hs ha =>
    rename_i a xs ds
    refine .inr ⟨a, xs, rfl, I.s.seq hs, by rw [ha.length]; exact setAll_len ht, ?_⟩
    exact gTN_go I ha ht (fun i hi => hi) fun σ' I' hw => q σ' I' hw
  | _ => cases ht
section
variable {X : Cx} {pos : Pos}
theorem dg_name (i : Nat) {x : Str} (hN : X.N.Nodup) (hi : X.N[i]? = some x := by rfl) (hx : Loc X.env.scope x := by first | exact Or.inl rfl | exact Or.inr rfl) (hf : X.fn x = true ∨ X.env.scope.names.lookup x = some .local := by first | exact .inl rfl | exact .inr rfl) : DG X (.Name x pos) [i] (gN i) (gName i) where
  pg := pg_name hN hi hx hf
  run := dgr_name i
theorem dgs_nil : PGs X [] (gTN []) := pgs_nil
theorem dgs_cons (i : Nat) {x : Str} {p : Pos} {es : List Expr} {is : List Nat} (hN : X.N.Nodup) (r : PGs X es (gTN is)) (hi : X.N[i]? = some x := by rfl) (hx : Loc X.env.scope x := by first | exact Or.inl rfl | exact Or.inr rfl) (hf : X.fn x = true ∨ X.env.scope.names.lookup x = some .local := by first | exact .inl rfl | exact .inr rfl)
    (hs : (assignEach (.Name x p :: es) X.env).map (·.2) = assign (.Name x p) X.env :: (assignEach es X.env).map (·.2) := by rfl) : PGs X (.Name x p :: es) (gTN (i :: is)) := pgs_cons (pg_name hN hi hx hf) r hs
theorem dg_tup {es : List Expr} {k : Nat} {is : List Nat} (hc : X.calm = true) (h : PGs X es (gTN is)) (hn : (assignEach es X.env).length = is.length := by rfl) (hst : (assignEach es X.env).findIdx? (·.1) = none := by rfl) :
    DG X (.Tuple es k pos) is (gT is) (gSq X.K is.length (gTN is)) where
  pg := pg_or (pg_tup hc h hn hst) (pg_unl hc h hn hst)
  run := dgr_tup is
end

/-! ### for -/
def forD (body : PyData → En → Option Ou) : List PyData → En → Option Ou
  | [], E => some (.nx E)
  | d :: r, E => (body d E).bind fun o => match o with
    | .nx E' => forD body r E'
    | .ct E' => forD body r E'
    | .bk E' => some (.nx E')
    | .rt d => some (.rt d)
    | .ro r E' => some (.ro r E')
def sFor (ti : En → Option (List PyData)) (g : PyData → En → Option En) (tb : En → Option Ou) (E : En) : Option Ou := (ti E).bind fun ds => forD (fun d E => (g d E).bind tb) ds E
section
variable {X : Cx} {tg iter : Expr} {body : List Stmt} {pos : Pos}
theorem ds_for {ti : En → Option (List PyData)} {is : List Nat} {g : PyData → En → Option En} {t : TG} {tb : En → Option Ou} (hp : PassesOwn (model X.prog X.w) X.A X.env X.xe) (hc : X.calm = true) (hi : DI X tg iter ti) (hg : DG X tg is g t) (hb : DSs X body tb)
    (hs : ∀ x, foldedSetIterable iter X.env x = pure x := by intro _; rfl) : DSt X (.For tg iter body [] pos) (sFor ti g tb) := ⟨fun B G0 E σ H G o D I ht ok => by
  unfold sFor at ht
  cases et : ti E with
  | none => rw [et] at ht; cases ht
  | some ds =>
    rw [et] at ht
    replace ht : forD (fun d E => (g d E).bind tb) ds E = some o := ht
    refine ⟨_, ps_for hp hc (bestI_pi X tg iter) hg.pg (bestSs_ps X body) hs, ?_⟩
    refine hi.run B G0 E σ H G ds _ I et fun J H1 G1 x1 wk => ?_
    refine ⟨fun i m σ H => m = ds.length - i ∧ i ≤ ds.length ∧ ∃ E G, SI X.K B G0 E σ H G ∧ Same G1 G ∧ forD (fun d E => (g d E).bind tb) (ds.drop i) E = some o, ⟨ds.length, by simp, Nat.zero_le _, E, G1, I.ext x1, .refl _, by rw [List.drop_zero]; exact ht⟩, ?_⟩
    rintro i m σ H ⟨rfl, hi, E, G, I, sm, hf⟩
    obtain ⟨w1, w2⟩ := wk i H G sm I.s
    by_cases hlt : i < ds.length
    · have hd : ds[i]? = some ds[i] := List.getElem?_eq_getElem hlt
      obtain ⟨go, hy⟩ := w1 _ hd
      rw [List.drop_eq_getElem_cons hlt] at hf
      replace hf : ((g ds[i] E).bind tb).bind (fun o => match o with
        | .nx E' => forD (fun d E => (g d E).bind tb) (ds.drop (i + 1)) E'
        | .ct E' => forD (fun d E => (g d E).bind tb) (ds.drop (i + 1)) E'
        | .bk E' => some (.nx E')
        | .rt d => some (.rt d)
        | .ro r E' => some (.ro r E')) = some o := hf
      cases eg : g ds[i] E with
      | none => rw [eg] at hf; cases hf
      | some E1 =>
        rw [eg] at hf
        cases eb : tb E1 with
        | none => rw [show (Option.some E1).bind tb = tb E1 from rfl, eb] at hf; cases hf
        | some o1 =>
          rw [show (Option.some E1).bind tb = tb E1 from rfl, eb] at hf
          refine .inr ⟨go, fun σ' H' => ∃ E G, SI X.K B G0 E σ' H' G ∧ Same G1 G ∧ forD (fun d E => (g d E).bind tb) (ds.drop (i + 1)) E = some o, fun σ' H' n => ⟨ds.length - (i + 1), by omega, rfl, hlt, n⟩, fun x H' y => ?_⟩
          obtain ⟨G', x', d'⟩ := hy x H' y
          refine hg.run B G0 E E1 σ H' G' x _ _ (I.ext x') d' eg fun σ2 I2 _ => ?_
          refine hb.run B G0 E1 σ2 H' G' o1 _ I2 eb ?_
          cases o1 with
          | nx E2 => exact fun σ3 H3 G3 I3 s3 => ⟨E2, G3, I3, (sm.trans x'.g).trans s3, hf⟩
          | ct E2 => exact fun σ3 H3 G3 I3 s3 => ⟨E2, G3, I3, (sm.trans x'.g).trans s3, hf⟩
          | bk E2 =>
            cases hf
            exact fun σ3 H3 G3 I3 s3 => ok σ3 H3 G3 I3 (((x1.g.trans sm).trans x'.g).trans s3)
          | rt d =>
            cases hf
            exact ok
          | ro r E2 =>
            cases hf
            exact fun v σ3 H3 G3 I3 s3 => ok v σ3 H3 G3 I3 (((x1.g.trans sm).trans x'.g).trans s3)
    · have e : i = ds.length := by omega
      subst e
      rw [List.drop_length] at hf
      cases hf
      exact .inl ⟨w2 (Nat.le_refl _), ok σ H G I (x1.g.trans sm)⟩⟩
end
end Pd

namespace Pd
open PySem PySem.Spec PyProof.Rows L2

/-! ### list comprehensions -/
def wipeE (E : En) : List Nat → En
  | [] => E
  | v :: vs => (wipeE E vs).set v .un
theorem SI.wipe {K : PySem.W.Frag} {B : Bs} {G0 H G : Hp} {E : En} {σ : SS} (I : SI K B G0 E σ H G) : ∀ vs : List Nat, SI K B G0 (wipeE E vs) (L2.wipe σ vs) H G
  | [] => I
  | v :: vs => (SI.wipe I vs).wipe1
def lcD (step : PyData → Option (Option PyData)) : List PyData → Option (List PyData)
  | [] => some []
  | d :: r => (step d).bind fun o => (lcD step r).bind fun ys => some (match o with | some y => y :: ys | none => ys)
theorem lcD_cons {step : PyData → Option (Option PyData)} {d : PyData} {r ys : List PyData} (h : lcD step (d :: r) = some ys) : ∃ o zs, step d = some o ∧ lcD step r = some zs ∧ ys = match o with | some y => y :: zs | none => zs := by
  unfold lcD at h
  cases e : step d with
  | none => rw [e] at h; cases h
  | some o =>
    rw [e] at h
    cases e2 : lcD step r with
    | none => rw [e2] at h; cases h
    | some zs =>
      rw [e2] at h
      cases h
      exact ⟨o, zs, rfl, rfl, rfl⟩
/-- a turn: the target, the test, the element -/
def lcT (g : PyData → En → Option En) (tt : En → Option Bool) (te : En → Option PyData) (E : En) (d : PyData) : Option (Option PyData) := (g d E).bind fun E' => (tt E').bind fun b => if b then (te E').bind fun y => some (some y) else some none
theorem lcT_some {g : PyData → En → Option En} {tt : En → Option Bool} {te : En → Option PyData} {E : En} {d : PyData} {o : Option PyData} (h : lcT g tt te E d = some o) : ∃ E' b, g d E = some E' ∧ tt E' = some b ∧ ((b = true ∧ ∃ y, te E' = some y ∧ o = some y) ∨ (b = false ∧ o = none)) := by
  unfold lcT at h
  cases e : g d E with
  | none => rw [e] at h; cases h
  | some E' =>
    rw [e] at h
    replace h : (tt E').bind (fun b => if b then (te E').bind fun y => some (some y) else some none) = some o := h
    cases e2 : tt E' with
    | none => rw [e2] at h; cases h
    | some b =>
      rw [e2] at h
      replace h : (if b then (te E').bind fun y => some (some y) else some none) = some o := h
      cases b with
      | true =>
        replace h : (te E').bind (fun y => some (some y)) = some o := h
        cases e3 : te E' with
        | none => rw [e3] at h; cases h
        | some y =>
          rw [e3] at h
          cases h
          exact ⟨E', true, rfl, e2, .inl ⟨rfl, y, e3, rfl⟩⟩
      | false =>
        cases h
        exact ⟨E', false, rfl, e2, .inr ⟨rfl, rfl⟩⟩
def eLc (ti : En → Option (List PyData)) (vs : List Nat) (g : PyData → En → Option En) (tt : En → Option Bool) (te : En → Option PyData) (E : En) : Option (List PyData) := ((ti E).bind chkL).bind fun ds => lcD (lcT g tt te (wipeE E vs)) ds
structure DTs (X : Cx) (ifs : List Expr) (t : En → Option Bool) : Prop where
  run : ∀ (B : Bs) (G0 : Hp) (E : En) (σ : SS) (H G : Hp) (b : Bool) (Q : Bool → Hp → Prop), SI X.K B G0 E σ H G → t E = some b → (∀ H' G', Ext H G H' G' → Q b H') → ∃ tt, PTs X ifs tt ∧ tt σ H Q
theorem dts_nil {X : Cx} : DTs X [] (fun _ => some true) := ⟨fun B G0 E σ H G b Q I ht q => by
  cases ht
  exact ⟨_, pts_nil, q H G (.refl I.s)⟩⟩
theorem dts_one {X : Cx} {c : Expr} {t : En → Option Bool} (h : DT X c t) : DTs X [c] t := ⟨fun B G0 E σ H G b Q I ht q => by
  obtain ⟨tt, p, r⟩ := h.run B G0 E σ H G b Q I ht q
  exact ⟨_, pts_one p, r⟩⟩
theorem wipe_idem (σ : SS) (is : List Nat) : L2.wipe (L2.wipe σ is) is = L2.wipe σ is := by
  have h : ∀ (is js : List Nat) (σ : SS), (∀ i ∈ is, i ∈ js) → L2.wipe (L2.wipe σ is) js = L2.wipe σ js := by
    intro is
    induction is with
    | nil => intro js σ _; rfl
    | cons i is ih =>
      intro js σ hj
      show L2.wipe ((L2.wipe σ is).set i none) js = L2.wipe σ js
      rw [wipe_set (hj i List.mem_cons_self), ih js σ fun k hk => hj k (List.mem_cons_of_mem _ hk)]
  exact h is is σ fun i hi => hi
section
variable {X : Cx}
/-- the readings of a block's parts, whatever the block's own frame is -/
def blkE (X : Cx) (scope : Scope) (e : Expr) : TE := fun σ H Q => ∀ (s : Shared) (H' : Hp) (C : Addr) (cl : List (Str × Addr)) (fp : List Addr), best (X.blk s H' scope (compEnvC scope cl C X.env) fp) e σ H Q
theorem blkE_pe (X : Cx) (scope : Scope) (e : Expr) (s : Shared) (H' : Hp) (C : Addr) (cl : List (Str × Addr)) (fp : List Addr) : PE (X.blk s H' scope (compEnvC scope cl C X.env) fp) e (blkE X scope e) :=
  ⟨fun pins s1 σ H Q I h => (best_pe _ e).run pins s1 σ H Q I (h s H' C cl fp)⟩
def blkT (X : Cx) (scope : Scope) (ifs : List Expr) : TT := fun σ H Q => ∀ (s : Shared) (H' : Hp) (C : Addr) (cl : List (Str × Addr)) (fp : List Addr), ∃ t, PTs (X.blk s H' scope (compEnvC scope cl C X.env) fp) ifs t ∧ t σ H Q
theorem blkT_pt (X : Cx) (scope : Scope) (ifs : List Expr) (s : Shared) (H' : Hp) (C : Addr) (cl : List (Str × Addr)) (fp : List Addr) : PTs (X.blk s H' scope (compEnvC scope cl C X.env) fp) ifs (blkT X scope ifs) :=
  ⟨fun pins s1 σ H Q I h => by
    obtain ⟨t, p, q⟩ := h s H' C cl fp
    exact p.run pins s1 σ H Q I q⟩
theorem lc_run {elt tg iter : Expr} {ifs : List Expr} {scope : Scope} {vs is : List Nat} {ti : En → Option (List PyData)} {g : PyData → En → Option En} {t : TG} {tt : En → Option Bool} {te : En → Option PyData}
    (hi : DI X tg iter ti) (hg : ∀ (s : Shared) (H : Hp) (C : Addr) (cl : List (Str × Addr)) (fp : List Addr), DG (X.blk s H scope (compEnvC scope cl C X.env) fp) tg is g t) (hr : DGr X.K is g t) (hv : is = vs)
    (ht : ∀ (s : Shared) (H : Hp) (C : Addr) (cl : List (Str × Addr)) (fp : List Addr), DTs (X.blk s H scope (compEnvC scope cl C X.env) fp) ifs tt) (he : ∀ (s : Shared) (H : Hp) (C : Addr) (cl : List (Str × Addr)) (fp : List Addr), DE (X.blk s H scope (compEnvC scope cl C X.env) fp) elt te)
    {B : Bs} {G0 : Hp} {E : En} {σ : SS} {H G : Hp} {ds : List PyData} {Q : VK} (I : SI X.K B G0 E σ H G) (h : eLc ti vs g tt te E = some ds)
    (q : ∀ p xs H' G', Ext H G H' G' → H p = none → H' p = some (.lst xs) → G' p = none → DpAll X.K G' xs ds → Q (.ref p) H') : tLc (bestI X tg iter) t (blkT X scope ifs) (blkE X scope elt) vs σ H Q := by
  subst hv
  unfold eLc at h
  cases ei : ti E with
  | none => rw [ei] at h; cases h
  | some ws =>
    rw [ei] at h
    replace h : (chkL ws).bind (fun ds => lcD (lcT g tt te (wipeE E is)) ds) = some ds := h
    cases ez : chkL ws with
    | none => rw [ez] at h; cases h
    | some ws' =>
      rw [ez] at h
      obtain ⟨hz, ews⟩ := chkL_some ez
      rw [ews] at h
      replace h : lcD (lcT g tt te (wipeE E is)) ws = some ds := h
      refine hi.run B G0 E σ H G ws _ I ei fun J H1 G1 x1 wk D hD => ?_
      have I1 := I.ext x1
      obtain ⟨fp, F1⟩ := I1.v
      have hD0 : B.h D = none := I1.e.h.free hD
      have hDn : ∀ j, D ∉ fp j := fun j => F1.new hD j
      refine ⟨fun i m H2 => m = ws.length - i ∧ i ≤ ws.length ∧ ∃ G2 acc as rest, Ext B.h G0 H2 G2 ∧ Fps X.K B E σ H2 G2 fp ∧ Same H1 H2 ∧ Same G1 G2 ∧ (∀ a o, H1 a = some o → Mut (some o) → G1 a = none → G2 a = none) ∧ H2 D = some (.lst acc) ∧ G2 D = none ∧ DpAll X.K G2 acc as ∧ acc.length ≤ i ∧ lcD (lcT g tt te (wipeE E is)) (ws.drop i) = some rest ∧ as ++ rest = ds,
        ⟨ws.length, by simp, Nat.zero_le _, G1, [], [], ds, I1.e.trans (.newO x1.s hD), F1.ext (.newO x1.s hD), same_upd hD, .refl _, fun a o _ _ gn => gn, upd_same, x1.s.free hD, .nil, Nat.le_refl _, by rw [List.drop_zero]; exact h, rfl⟩, ?_⟩
      rintro i m H2 ⟨rfl, hi, G2, acc, as, rest, e2, F2, sH, sG, nG, d1, d2, d3, d4, hrs, hd⟩
      obtain ⟨w1, w2⟩ := wk i H2 G2 sG e2.s
      by_cases hlt : i < ws.length
      · obtain ⟨go, hy⟩ := w1 _ (List.getElem?_eq_getElem hlt)
        refine .inr ⟨go, fun H2 => ∃ G2 acc as rest, Ext B.h G0 H2 G2 ∧ Fps X.K B E σ H2 G2 fp ∧ Same H1 H2 ∧ Same G1 G2 ∧ (∀ a o, H1 a = some o → Mut (some o) → G1 a = none → G2 a = none) ∧ H2 D = some (.lst acc) ∧ G2 D = none ∧ DpAll X.K G2 acc as ∧ acc.length ≤ i + 1 ∧ lcD (lcT g tt te (wipeE E is)) (ws.drop (i + 1)) = some rest ∧ as ++ rest = ds, fun H' n => ⟨ws.length - (i + 1), by omega, rfl, hlt, n⟩, fun x H3 y => ?_⟩
        obtain ⟨G3, x3, dx⟩ := hy x H3 y
        rw [List.drop_eq_getElem_cons hlt] at hrs
        obtain ⟨o, ys, el, er, rfl⟩ := lcD_cons hrs
        obtain ⟨E', b, eg, et, hb⟩ := lcT_some el
        have I3 : SI X.K B G0 E σ H3 G3 := ⟨I.len, e2.trans x3, fp, F2.ext x3⟩
        refine hr B G0 _ E' _ H3 G3 x _ _ (I3.wipe is) dx eg fun σ' I' hw => ?_
        refine ⟨?_, ?_⟩
        · rw [hw (wipe σ is) rfl]
          exact wipe_idem σ is
        · intro s' H' C cl fpp
          refine (ht s' H' C cl fpp).run B G0 E' σ' H3 G3 b _ I' et fun H4 G4 x4 => ?_
          have nD : ∀ {H5 G5 : Hp}, Ext H3 G3 H5 G5 → Ext B.h G0 H5 G5 ∧ Fps X.K B E σ H5 G5 fp ∧ Same H1 H5 ∧ Same G1 G5 ∧ (∀ a o, H1 a = some o → Mut (some o) → G1 a = none → G5 a = none) ∧ H5 D = some (.lst acc) ∧ G5 D = none ∧ DpAll X.K G5 acc as := fun {H5 G5} x5 => by
            have x25 := x3.trans x5
            exact ⟨e2.trans x25, F2.ext x25, sH.trans x25.h, sG.trans x25.g, fun a o h1 mu h2 => x25.n a o (sH a o h1) mu (nG a o h1 mu h2), x25.h _ _ d1, x25.n _ _ d1 trivial d2, d3.mo x25.g⟩
          rcases hb with ⟨rfl, y, ey, rfl⟩ | ⟨rfl, rfl⟩
          · refine iteT (fun s' H' C cl fpp => ?_)
            refine (he s' H' C cl fpp).run B G0 E' σ' H4 G4 y _ (I'.ext x4) ey fun v H5 G5 x5 dv => ?_
            obtain ⟨k0, k1, k2, k3, k4, k5, k6, k7⟩ := nD (x4.trans x5)
            refine ⟨acc, k5, by omega, G5, acc ++ [v], as ++ [y], ys, k0.chg hD0 k6, k1.chgN hDn, fun a o h1 => ?_, k3, k4, upd_same, k6, k7.append (.cons dv .nil), by rw [List.length_append, List.length_singleton]; omega, er, ?_⟩
            · rw [upd_ne (ne_of_none h1 hD)]
              exact k2 a o h1
            · rw [List.append_assoc]
              exact hd
          · refine iteF ?_
            obtain ⟨k0, k1, k2, k3, k4, k5, k6, k7⟩ := nD x4
            exact ⟨G4, acc, as, ys, k0, k1, k2, k3, k4, k5, k6, k7, by omega, er, hd⟩
      · have e : i = ws.length := by omega
        subst e
        rw [List.drop_length] at hrs
        cases hrs
        rw [List.append_nil] at hd
        subst hd
        exact .inl ⟨w2 (Nat.le_refl _), q D acc H2 G2 (x1.trans ⟨sH, sG, e2.s, nG⟩) (x1.h.free hD) d1 d2 d3⟩
end
end Pd

namespace Pd
open PySem PySem.Spec PyProof.Rows L2
section
variable {X : Cx} {pos : Pos}
/-- [elt for tg in iter if ..] -/
theorem df_lc {elt tg iter : Expr} {ifs : List Expr} {scope : Scope} (own : List (Str × Nat)) {is : List Nat} {ti : En → Option (List PyData)} {g : PyData → En → Option En} {t : TG} {tt : En → Option Bool} {te : En → Option PyData} (hc : X.calm = true) (hN : X.N.Nodup)
    (hi : DI X tg iter ti) (ok : BlkOk X.N X.env.scope scope own) (hr : DGr X.K is g t) (hg : ∀ (s : Shared) (H : Hp) (C : Addr) (cl : List (Str × Addr)) (fp : List Addr), DG (X.blk s H scope (compEnvC scope cl C X.env) fp) tg is g t)
    (ht : ∀ (s : Shared) (H : Hp) (C : Addr) (cl : List (Str × Addr)) (fp : List Addr), DTs (X.blk s H scope (compEnvC scope cl C X.env) fp) ifs tt) (he : ∀ (s : Shared) (H : Hp) (C : Addr) (cl : List (Str × Addr)) (fp : List Addr), DE (X.blk s H scope (compEnvC scope cl C X.env) fp) elt te)
    (hv : is = own.map (·.2) := by rfl) (hs : ∀ x, foldedSetIterable iter X.env x = pure x := by intro _; rfl) :
    DF X (.ListComp elt [⟨tg, iter, ifs, 0⟩] scope pos) (eLc ti (own.map (·.2)) g tt te) := ⟨fun B G0 E σ H G ds Q I h q =>
  PE.b (pe_lc (own := own) hc hN (bestI_pi X tg iter) ok (fun s H C cl fp => (hg s H C cl fp).pg) (blkT_pt X scope ifs) (blkE_pe X scope elt) hs) (lc_run hi hg hr hv ht he I h q)⟩
/-- name = [..] on one line -/
theorem ds_setLcO (i : Nat) {y : Str} {py spos : Pos} {elt tg iter : Expr} {ifs : List Expr} {scope : Scope} (own : List (Str × Nat)) {is : List Nat} {ti : En → Option (List PyData)} {g : PyData → En → Option En} {t : TG} {tt : En → Option Bool} {te : En → Option PyData} (hc : X.calm = true) (hN : X.N.Nodup)
    (hi : DI X tg iter ti) (ok : BlkOk X.N X.env.scope scope own) (hr : DGr X.K is g t) (hg : ∀ (s : Shared) (H : Hp) (C : Addr) (cl : List (Str × Addr)) (fp : List Addr), DG (X.blk s H scope (compEnvC scope cl C X.env) fp) tg is g t)
    (ht : ∀ (s : Shared) (H : Hp) (C : Addr) (cl : List (Str × Addr)) (fp : List Addr), DTs (X.blk s H scope (compEnvC scope cl C X.env) fp) ifs tt) (he : ∀ (s : Shared) (H : Hp) (C : Addr) (cl : List (Str × Addr)) (fp : List Addr), DE (X.blk s H scope (compEnvC scope cl C X.env) fp) elt te)
    (hsw : swapsWith (.ListComp elt [⟨tg, iter, ifs, 0⟩] scope pos) (some (.Name y py)) spos.line X.env = pure true) (hv : is = own.map (·.2) := by rfl) (hy : X.N[i]? = some y := by rfl) (hyl : X.env.scope.names.lookup y = some .local := by rfl) (hs : ∀ x, foldedSetIterable iter X.env x = pure x := by intro _; rfl) :
    DSt X (.Assign [.Name y py] (.ListComp elt [⟨tg, iter, ifs, 0⟩] scope pos) spos) (sSetO i (eLc ti (own.map (·.2)) g tt te)) := ⟨fun B G0 E σ H G o D I h ok' => by
  unfold sSetO at h
  cases et : eLc ti (own.map (·.2)) g tt te E with
  | none => rw [et] at h; cases h
  | some ds =>
    rw [et] at h
    cases h
    refine ⟨_, ps_setLc (own := own) hc hN hy hyl hsw (bestI_pi X tg iter) ok (fun s H C cl fp => (hg s H C cl fp).pg) (blkT_pt X scope ifs) (blkE_pe X scope elt) hs, ?_⟩
    exact lc_run hi hg hr hv ht he I et fun p xs H1 G1 x1 hp hp1 gp d1 => ok' _ H1 G1 (I.setO x1 hp hp1 gp d1) x1.g⟩
theorem ds_setLc (i : Nat) {y : Str} {py spos : Pos} {elt tg iter : Expr} {ifs : List Expr} {scope : Scope} (own : List (Str × Nat)) {is : List Nat} {ti : En → Option (List PyData)} {g : PyData → En → Option En} {t : TG} {tt : En → Option Bool} {te : En → Option PyData} (hc : X.calm = true) (hN : X.N.Nodup)
    (hi : DI X tg iter ti) (ok : BlkOk X.N X.env.scope scope own) (hr : DGr X.K is g t) (hg : ∀ (s : Shared) (H : Hp) (C : Addr) (cl : List (Str × Addr)) (fp : List Addr), DG (X.blk s H scope (compEnvC scope cl C X.env) fp) tg is g t)
    (ht : ∀ (s : Shared) (H : Hp) (C : Addr) (cl : List (Str × Addr)) (fp : List Addr), DTs (X.blk s H scope (compEnvC scope cl C X.env) fp) ifs tt) (he : ∀ (s : Shared) (H : Hp) (C : Addr) (cl : List (Str × Addr)) (fp : List Addr), DE (X.blk s H scope (compEnvC scope cl C X.env) fp) elt te)
    (hsw : swapsWith (.ListComp elt [⟨tg, iter, ifs, 0⟩] scope pos) (some (.Name y py)) spos.line X.env = pure true) (hv : is = own.map (·.2) := by rfl) (hy : X.N[i]? = some y := by rfl) (hyl : X.env.scope.names.lookup y = some .local := by rfl) (hs : ∀ x, foldedSetIterable iter X.env x = pure x := by intro _; rfl) :
    DSt X (.Assign [.Name y py] (.ListComp elt [⟨tg, iter, ifs, 0⟩] scope pos) spos) (sSet i (eL (eLc ti (own.map (·.2)) g tt te))) := ⟨fun B G0 E σ H G o D I h ok' => by
  unfold sSet eL at h
  cases et : eLc ti (own.map (·.2)) g tt te E with
  | none => rw [et] at h; cases h
  | some ds =>
    rw [et] at h
    cases h
    refine ⟨_, ps_setLc (own := own) hc hN hy hyl hsw (bestI_pi X tg iter) ok (fun s H C cl fp => (hg s H C cl fp).pg) (blkT_pt X scope ifs) (blkE_pe X scope elt) hs, ?_⟩
    refine lc_run hi hg hr hv ht he I et fun p xs H1 G1 x1 hp hp1 gp d1 => ?_
    have x2 : Ext H G H1 (upd G1 p (.lst xs)) := x1.frz hp hp1 gp
    exact ok' _ H1 _ ((I.ext x2).setC (.lst (.inl (.inl upd_same)) (d1.mo (same_upd gp)))) x2.g⟩

/-! ### a list of one's own is changed -/
def owAt (E : En) (i : Nat) : Option (List PyData) := match E[i]? with
  | some (.ow ds) => some ds
  | _ => none
theorem owAt_some {E : En} {i : Nat} {ds : List PyData} (h : owAt E i = some ds) : E[i]? = some (.ow ds) := by
  unfold owAt at h
  split at h
  · rename_i ds' e
    cases h
    exact e
  · cases h
def sApp (i : Nat) (t : En → Option PyData) (E : En) : Option Ou := (t E).bind fun d => (owAt E i).bind fun ds => (chkL (ds ++ [d])).bind fun es => some (.nx (E.set i (.ow es)))
theorem ds_app (i : Nat) {x : Str} {e : Expr} {te : En → Option PyData} {p p2 p3 : Pos} (he : DE X e te) (hN : X.N[i]? = some x := by rfl) (hv : Vis X.env.scope x := by first | exact Or.inl rfl | exact Or.inr (Or.inl rfl) | exact Or.inr (Or.inr rfl)) (hd : (x == ("__debug__" : Str)) = false := by decide)
    (hcd : (x == ("__classdict__" : Str)) = false := by decide) (hst : starEach [e] X.env = (false, eval e X.env) :: starEach [] X.env := by rfl) (hs : swapsWith (.Call (.Attribute (.Name x p) "append" p2) [e] [] p3) none pos.line X.env = pure false := by rfl)
    (hb : ∀ {t : TA}, PA X [e] t → PE X (.Call (.Attribute (.Name x p) "append" p2) [e] [] p3) (tBM X.K "list" rAppend (tVar i) t) := by intro _ h; exact pe_bm PySem.F.plainAttrs_list PySem.F.slot_list_append PySem.F.type_list_append mt_append (pe_var (by rfl) (by first | exact Or.inl rfl | exact Or.inr (Or.inl rfl) | exact Or.inr (Or.inr rfl)) (by decide) (by decide)) h) :
    DSt X (.Expr (.Call (.Attribute (.Name x p) "append" p2) [e] [] p3) pos) (sApp i te) := ⟨fun B G0 E σ H G o D I h ok' => by
  unfold sApp at h
  cases et : te E with
  | none => rw [et] at h; cases h
  | some d =>
    rw [et] at h
    replace h : (owAt E i).bind (fun ds => (chkL (ds ++ [d])).bind fun es => some (Ou.nx (E.set i (.ow es)))) = some o := h
    cases ew : owAt E i with
    | none => rw [ew] at h; cases h
    | some ds =>
      rw [ew] at h
      replace h : (chkL (ds ++ [d])).bind (fun es => some (Ou.nx (E.set i (.ow es)))) = some o := h
      cases ec : chkL (ds ++ [d]) with
      | none => rw [ec] at h; cases h
      | some es =>
        rw [ec] at h
        obtain ⟨hz, rfl⟩ := chkL_some ec
        rw [List.length_append, List.length_singleton] at hz
        cases h
        have ew' := owAt_some ew
        obtain ⟨p, xs, s1, s2, s3, s4, s5⟩ := I.owv ew'
        refine ⟨_, ps_expr (hb (pa_cons (best_pe X e) pa_nil hst)) hs, ?_⟩
        refine ⟨.ref p, s1, .inl ⟨rfl, _, .inl (.inl s2)⟩, ?_⟩
        refine he.run B G0 E σ H G d _ I et fun v H1 G1 x1 dv => ?_
        refine ⟨p, xs, v, rfl, rfl, x1.h _ _ s2, by rw [s5.length]; omega, ?_⟩
        exact ok' σ _ G1 ((I.ext x1).chg ew' s1 ((s5.mo x1.g).append (.cons dv .nil))) x1.g⟩
/-- x[k] = e -/
def sPut (i : Nat) (tk te : En → Option PyData) (E : En) : Option Ou := (te E).bind fun d => ((tk E).bind iOf).bind fun k => (owAt E i).bind fun ds => (ixN ds.length k).bind fun j => some (.nx (E.set i (.ow (ds.set j d))))
theorem ds_put (i : Nat) {x : Str} {k e : Expr} {tk te : En → Option PyData} {p p2 : Pos} (hk : DS X k tk) (he : DE X e te) (hN : X.N[i]? = some x := by rfl) (hv : Vis X.env.scope x := by first | exact Or.inl rfl | exact Or.inr (Or.inl rfl) | exact Or.inr (Or.inr rfl)) (hd : (x == ("__debug__" : Str)) = false := by decide)
    (hcd : (x == ("__classdict__" : Str)) = false := by decide)
    (ha : ∀ v, assign (.Subscript (.Name x p) k p2) X.env v = (do
      let ov ← holding [v] (eval (.Name x p) X.env)
      let iv ← holding [v, ov] (eval k X.env)
      standAt p2
      holding [v, ov, iv] (setItem ov iv v)
      release [v, ov, iv] []) := by intro _; rfl)
    (hs : swapsWithSole [.Subscript (.Name x p) k p2] e pos.line X.env = pure false := by rfl) (hw : swappedStores [.Subscript (.Name x p) k p2] e X.env = pure none := by rfl)
    (h1 : (assignEach [.Subscript (.Name x p) k p2] X.env).map (·.2) = [assign (.Subscript (.Name x p) k p2) X.env] := by rfl) :
    DSt X (.Assign [.Subscript (.Name x p) k p2] e pos) (sPut i tk te) := ⟨fun B G0 E σ H G o D I h ok' => by
  unfold sPut at h
  cases et : te E with
  | none => rw [et] at h; cases h
  | some d =>
    rw [et] at h
    replace h : ((tk E).bind iOf).bind (fun k => (owAt E i).bind fun ds => (ixN ds.length k).bind fun j => some (Ou.nx (E.set i (.ow (ds.set j d))))) = some o := h
    cases ek : (tk E).bind iOf with
    | none => rw [ek] at h; cases h
    | some k =>
      rw [ek] at h
      replace h : (owAt E i).bind (fun ds => (ixN ds.length k).bind fun j => some (Ou.nx (E.set i (.ow (ds.set j d))))) = some o := h
      cases ew : owAt E i with
      | none => rw [ew] at h; cases h
      | some ds =>
        rw [ew] at h
        replace h : (ixN ds.length k).bind (fun j => some (Ou.nx (E.set i (.ow (ds.set j d))))) = some o := h
        cases ej : ixN ds.length k with
        | none => rw [ej] at h; cases h
        | some j =>
          rw [ej] at h
          cases h
          have ew' := owAt_some ew
          obtain ⟨p, xs, s1, s2, s3, s4, s5⟩ := I.owv ew'
          refine ⟨_, ps_asg (best_pe X e) (pg_sub (pe_var hN hv hd hcd) (best_pe X _) set_list ha) hs hw h1, ?_⟩
          refine he.run B G0 E σ H G d _ I et fun v H1 G1 x1 dv => ?_
          refine ⟨_, s1, ?_⟩
          refine hk.run B G0 E σ H1 G1 _ _ (I.ext x1) (iOf_bind ek) fun u H2 G2 x2 du => ?_
          refine ⟨p, xs, k, j, rfl, du.int, x2.h _ _ (x1.h _ _ s2), by rw [s5.length]; exact ej, ?_⟩
          exact ok' σ _ G2 (((I.ext x1).ext x2).chg ew' s1 (DpAll.set (dv.mo x2.g) j ((s5.mo x1.g).mo x2.g))) (x1.g.trans x2.g)⟩
/-- x op= e, a name -/
def AugD (X : Cx) (op : Operator) (g : PyData → PyData → Option PyData) : Prop :=
  ∃ r : TIp, PIp X op r ∧ ∀ (H G : Hp) (x y : V) (a b d : PyData) (Q : VK), Same G H → Sm X.K H G x a → Sm X.K H G y b → g a b = some d → (∀ v H' G', Ext H G H' G' → Dp X.K G' v d → Q v H') → r x y H Q
theorem AugD.of {op : Operator} {g : PyData → PyData → Option PyData} (h : OpD X (inplaceOp op) g) : AugD X op g := h
def dIadd : PyData → PyData → Option PyData
  | .int i, .int j => some (.int (i + j))
  | .str x, .str y => chkS (x ++ y)
  | _, _ => none
theorem i_add : AugD X .Add dIadd := by
  refine ⟨_, iop_add.or iop_add_str, fun H G x y a b d Q s ha hb e q => ?_⟩
  unfold dIadd at e
  split at e
  · cases e
    exact .inl ⟨_, _, ha.int, hb.int, q _ H G (.refl s) (.int _)⟩
  · obtain ⟨hl, rfl⟩ := chkS_some e
    rw [strlen_app] at hl
    exact .inr ⟨_, _, ha.str, hb.str, hl, q _ H G (.refl s) (.str _)⟩
  · cases e
theorem i_sub : AugD X .Sub dSub := OpD.int0 iop_sub (fun G i j => .int _) fun a b d e => by
  unfold dSub at e
  split at e
  · cases e; exact ⟨_, _, rfl, rfl, rfl⟩
  · cases e
def imulC (i j : Int) : Option PyData := if (-(2 ^ 64) < i ∧ i < 2 ^ 64) ∨ (-(2 ^ 64) < j ∧ j < 2 ^ 64) then some (.int (i * j)) else none
theorem imulC_l {i j : Int} (h1 : -(2 ^ 64) < i) (h2 : i < 2 ^ 64) : imulC i j = some (.int (i * j)) := if_pos (.inl ⟨h1, h2⟩)
theorem imulC_r {i j : Int} (h1 : -(2 ^ 64) < j) (h2 : j < 2 ^ 64) : imulC i j = some (.int (i * j)) := if_pos (.inr ⟨h1, h2⟩)
def dImul : PyData → PyData → Option PyData
  | .int i, .int j => imulC i j
  | _, _ => none
theorem i_mul : AugD X .Mult dImul := OpD.int (C := CMul) iop_mul (fun G i j => .int _) fun a b d e => by
  unfold dImul at e
  split at e
  · unfold imulC at e
    split at e
    · rename_i h
      cases e; exact ⟨_, _, rfl, rfl, h, rfl⟩
    · cases e
  · cases e
def sAug (i : Nat) (g : PyData → PyData → Option PyData) (t : En → Option PyData) (E : En) : Option Ou := (eBin g (eC i) t E).bind fun d => some (.nx (E.set i (.cl d)))
theorem ds_aug (i : Nat) {op : Operator} {g : PyData → PyData → Option PyData} {x : Str} {e : Expr} {te : En → Option PyData} {pos' : Pos} (ho : AugD X op g) (hN : X.N.Nodup) (he : DS X e te) (hi : X.N[i]? = some x := by rfl) (hx : Loc X.env.scope x := by first | exact Or.inl rfl | exact Or.inr rfl)
    (hf : X.fn x = true ∨ X.env.scope.names.lookup x = some .local := by first | exact .inl rfl | exact .inr rfl) : DSt X (.AugAssign (.Name x pos') op e pos) (sAug i g te) := ⟨fun B G0 E σ H G o D I ht ok => by
  obtain ⟨r, hr, hd⟩ := ho
  unfold sAug at ht
  cases et : eBin g (eC i) te E with
  | none => rw [et] at ht; cases ht
  | some d =>
    rw [et] at ht
    cases ht
    obtain ⟨a, b, e1, e2, e3⟩ := eBin_some et
    unfold eC at e1
    split at e1
    · rename_i a' ea
      cases e1
      obtain ⟨v, s1, s2⟩ := I.clv ea
      refine ⟨_, ps_aug hN hi hx (best_pe X e) hr hf, ?_⟩
      refine ⟨v, s1, ?_⟩
      refine he.run B G0 E σ H G b _ I e2 fun u H1 G1 x1 d1 => ?_
      exact hd H1 G1 v u _ b d _ x1.s (.inl (s2.mo x1.g)) d1 e3 fun z H2 G2 x2 dz => ok _ H2 G2 (((I.ext x1).ext x2).setC dz) (x1.g.trans x2.g)
    · cases e1⟩
/-- several names at once: a tuple is taken apart -/
def sUnp (is : List Nat) (t : En → Option PyData) (E : En) : Option Ou := (t E).bind fun d => (gT is d E).bind fun E' => some (Ou.nx E')
theorem ds_unp {es : List Expr} {k : Nat} {is : List Nat} {e : Expr} {te : En → Option PyData} {p : Pos} (he : DE X e te) (hg : DG X (.Tuple es k p) is (gT is) (gSq X.K is.length (gTN is)))
    (hs : swapsWithSole [.Tuple es k p] e pos.line X.env = pure false := by rfl) (hw : swappedStores [.Tuple es k p] e X.env = pure none := by rfl) (h1 : (assignEach [.Tuple es k p] X.env).map (·.2) = [assign (.Tuple es k p) X.env] := by rfl) :
    DSt X (.Assign [.Tuple es k p] e pos) (sUnp is te) := ⟨fun B G0 E σ H G o D I ht ok => by
  unfold sUnp at ht
  cases et : te E with
  | none => rw [et] at ht; cases ht
  | some d =>
    rw [et] at ht
    replace ht : (gT is d E).bind (fun E' => some (Ou.nx E')) = some o := ht
    cases eg : gT is d E with
    | none => rw [eg] at ht; cases ht
    | some E' =>
      rw [eg] at ht
      cases ht
      refine ⟨_, ps_asg (best_pe X e) hg.pg hs hw h1, ?_⟩
      refine he.run B G0 E σ H G d _ I et fun v H1 G1 x1 d1 => ?_
      exact hg.run B G0 E E' σ H1 G1 v d _ (I.ext x1) d1 eg fun σ' I' _ => ok σ' H1 G1 I' x1.g⟩
/-- a, b = x, y -/
def parOf (i j : Nat) (E : En) : List PyData → Option Ou
  | [a, b] => some (.nx ((E.set i (.cl a)).set j (.cl b)))
  | _ => none
def sPar (i j : Nat) (t : En → Option (List PyData)) (E : En) : Option Ou := (t E).bind fun ds => parOf i j E ds
theorem ds_par (i j : Nat) {x y : Str} {a b : Expr} {ta : En → Option (List PyData)} {px py pt : Pos} {kt k2 pt2} (hc : X.calm = true) (hN : X.N.Nodup) (ha : DA X [a, b] ta) (hi : X.N[i]? = some x := by rfl) (hj : X.N[j]? = some y := by rfl) (hij : i ≠ j := by decide)
    (hx : X.env.scope.names.lookup x = some .local := by rfl) (hy : X.env.scope.names.lookup y = some .local := by rfl)
    (hw : swappedStores [.Tuple [.Name x px, .Name y py] kt pt] (.Tuple [a, b] k2 pt2) X.env = pure (some [x, y]) := by rfl)
    (hs : swapsWithSole [.Tuple [.Name x px, .Name y py] kt pt] (.Tuple [a, b] k2 pt2) pos.line X.env = pure false := by rfl) :
    DSt X (.Assign [.Tuple [.Name x px, .Name y py] kt pt] (.Tuple [a, b] k2 pt2) pos) (sPar i j ta) := ⟨fun B G0 E σ H G o D I ht ok => by
  unfold sPar at ht
  cases et : ta E with
  | none => rw [et] at ht; cases ht
  | some ds =>
    rw [et] at ht
    replace ht : parOf i j E ds = some o := ht
    unfold parOf at ht
    split at ht
    · rename_i d1 d2
      cases ht
      refine ⟨_, ps_par hc hN hi hj hij hx hy (bestA_pa X _) hw hs, ?_⟩
      refine ha.run B G0 E σ H G _ _ I et fun vs H1 G1 x1 dd => ?_
      cases dd with
      | cons h1 h2 =>
        cases h2 with
        | cons h2 h3 =>
          cases h3
          exact ⟨_, _, rfl, ok _ H1 G1 (((I.ext x1).setC h1).setC h2) x1.g⟩
    · cases ht⟩
/-- while, at most n turns -/
def whileD (c : En → Option Bool) (b : En → Option Ou) : Nat → En → Option Ou
  | 0, _ => none
  | n + 1, E => (c E).bind fun k => if k then (b E).bind fun o => match o with
      | .nx E' => whileD c b n E'
      | .ct E' => whileD c b n E'
      | .bk E' => some (.nx E')
      | .rt d => some (.rt d)
      | .ro r E' => some (.ro r E')
    else some (.nx E)
theorem ds_while (n : Nat) {c : Expr} {body : List Stmt} {tc : En → Option Bool} {tb : En → Option Ou} (hp : PassesOwn (model X.prog X.w) X.A X.env X.xe) (hc : DT X c tc) (hb : DSs X body tb) : DSt X (.While c body [] pos) (whileD tc tb n) := ⟨fun B G0 E σ H G o D I ht ok => by
  refine ⟨_, ps_while hp (bestT_pt X c) (bestSs_ps X body), ?_⟩
  refine ⟨fun m σ H => ∃ E G1, SI X.K B G0 E σ H G1 ∧ Same G G1 ∧ whileD tc tb m E = some o, ⟨n, E, G, I, .refl _, ht⟩, ?_⟩
  rintro m σ H ⟨E, G1, I, sm, hw⟩
  cases m with
  | zero => cases hw
  | succ m =>
    unfold whileD at hw
    cases ec : tc E with
    | none => rw [ec] at hw; cases hw
    | some k =>
      rw [ec] at hw
      refine hc.run B G0 E σ H G1 k _ I ec fun H2 G2 x2 => ?_
      cases k with
      | false =>
        cases hw
        exact iteF (ok σ H2 G2 (I.ext x2) (sm.trans x2.g))
      | true =>
        replace hw : (tb E).bind (fun o => match o with
          | .nx E' => whileD tc tb m E'
          | .ct E' => whileD tc tb m E'
          | .bk E' => some (.nx E')
          | .rt d => some (.rt d)
          | .ro r E' => some (.ro r E')) = some o := hw
        cases eb : tb E with
        | none => rw [eb] at hw; cases hw
        | some o1 =>
          rw [eb] at hw
          refine iteT ⟨fun σ' H' => ∃ E G1, SI X.K B G0 E σ' H' G1 ∧ Same G G1 ∧ whileD tc tb m E = some o, fun σ' H' h => ⟨m, Nat.lt_succ_self m, h⟩, ?_⟩
          refine hb.run B G0 E σ H2 G2 o1 _ (I.ext x2) eb ?_
          cases o1 with
          | nx E2 => exact fun σ3 H3 G3 I3 s3 => ⟨E2, G3, I3, (sm.trans x2.g).trans s3, hw⟩
          | ct E2 => exact fun σ3 H3 G3 I3 s3 => ⟨E2, G3, I3, (sm.trans x2.g).trans s3, hw⟩
          | bk E2 =>
            cases hw
            exact fun σ3 H3 G3 I3 s3 => ok σ3 H3 G3 I3 ((sm.trans x2.g).trans s3)
          | rt d =>
            cases hw
            exact ok
          | ro r E2 =>
            cases hw
            exact fun v σ3 H3 G3 I3 s3 => ok v σ3 H3 G3 I3 ((sm.trans x2.g).trans s3)⟩
end

/-! ### a def as it stands for its callers, at a level -/
structure Cl (P : Program) (w : World) (K : PySem.W.Frag) (mg : Str → Option Value) (base : Heap) (k : Nat) (x : Str) (n : Nat) (F : List PyData → Option PyData) : Prop where
  ok : ∃ (f : Addr) (fd : FuncData) (ps : List Str), ps.length = n ∧ mg x = some (.ref f) ∧ PySem.W.keepIn K (.ref f) = true ∧ Binds K fd ps [] ∧ FnOk P w K mg base CX0 k f fd ps (spD K n F)
theorem Cl.fc {X : Cx} {k j : Nat} {x : Str} {n : Nat} {F : List PyData → Option PyData} (h : Cl X.prog X.w X.K X.mg X.base k x n F) (hr : Room j X.A) (hj : k ≤ j) : Fc X x n F := by
  obtain ⟨f, fd, ps, a, b, c, d, e⟩ := h.ok
  exact ⟨⟨k, f, fd, ps, a, b, c, d, e, hr.mono hj⟩⟩
theorem Cl.mono {P : Program} {w : World} {K : PySem.W.Frag} {mg : Str → Option Value} {base : Heap} {j k : Nat} {x : Str} {n : Nat} {F : List PyData → Option PyData} (h : Cl P w K mg base j x n F) (hj : j ≤ k) : Cl P w K mg base k x n F := by
  obtain ⟨f, fd, ps, a, b, c, d, e⟩ := h.ok
  exact ⟨⟨f, fd, ps, a, b, c, d, e.mono hj⟩⟩
theorem Cl.mk' {P : Program} {w : World} {K : PySem.W.Frag} {mg : Str → Option Value} {base : Heap} {k : Nat} {x : Str} {n : Nat} {F F' : List PyData → Option PyData} {f : Addr} {fd : FuncData} {ps : List Str} {qual : Str} {st : Stmt} (D : Fun K x qual st f fd) (hm : mg x = some (.ref f)) (hb : Binds K fd ps [])
    (h : FnOk P w K mg base CX0 k f fd ps (spD K n F)) (hn : ps.length = n) (hf : ∀ ds d, ds.length = n → F' ds = some d → F ds = some d) : Cl P w K mg base k x n F' := ⟨⟨f, fd, ps, hn, hm, D.kp, hb, h.fn hf⟩⟩
/-- a scope, written short -/
def mkS (names : List (Str × NameKind)) : Scope := { kind := .function, names := names, isGenerator := false, isCoroutine := false, more := [] }
/-! ### the law -/
def scrD (ns : List Int) : PyData := .list (ns.map .int)
/-- the law's promise, from its function of data -/
theorem law_end {K : PySem.W.Frag} {F : List PyData → Option PyData} {H : Hp} {a : Addr} {ns : List Int} (hF : F [scrD ns] = some (.bool true)) (hS : SqL K H a (ns.map V.int)) : spD K 1 F [.ref a] H (fun v _ => v = .bl true) fun _ _ _ => False :=
  ⟨H, [scrD ns], .bool true, rfl, .refl H, .cons (.lst hS (DpAll.ofInts ns)) .nil, hF, fun v H' G' _ h => by cases h; rfl⟩
end Pd

namespace Pd
open PySem PySem.Spec PyProof.Rows L2
/-! ### t[::-1] -/
theorem adj_back (n : Nat) : Builtin.Slice.sliceAdjust none none (-1) (n : Int) = ((n : Int) - 1, -1) := by
  unfold Builtin.Slice.sliceAdjust
  simp
theorem places_back (n : Nat) : Builtin.Slice.slicePlaces ((n : Int) - 1) (-1) (-1) = n := by
  unfold Builtin.Slice.slicePlaces
  have h1 : ¬ ((-1 : Int) > 0) := by decide
  rw [if_neg h1]
  by_cases h : (n : Int) - 1 > -1
  · rw [if_pos h]
    have e : ((n : Int) - 1 - -1 - 1) / (- -1) + 1 = (n : Int) := by
      rw [show (- -1 : Int) = 1 by decide, Int.ediv_one]
      omega
    rw [e]
    rfl
  · rw [if_neg h]
    have : n = 0 := by omega
    subst this
    rfl
theorem pick_back (xs : Array Value) : ((List.range xs.size).filterMap fun (k : Nat) => xs[((xs.size : Int) - 1 + (k : Int) * -1).toNat]?).toArray = xs.toList.reverse.toArray := by
  have e : (List.range xs.size).filterMap (fun (k : Nat) => xs[((xs.size : Int) - 1 + (k : Int) * -1).toNat]?) = ((List.range xs.size).map fun k => xs.size - 1 - k).filterMap (xs[·]?) := by
    rw [List.filterMap_map]
    have go : ∀ l : List Nat, (∀ k ∈ l, k < xs.size) → l.filterMap (fun (k : Nat) => xs[((xs.size : Int) - 1 + (k : Int) * -1).toNat]?) = l.filterMap ((xs[·]?) ∘ fun k => xs.size - 1 - k) := by
      intro l
      induction l with
      | nil => intro _; rfl
      | cons k l ih =>
        intro h
        have hk := h k List.mem_cons_self
        have e1 : ((xs.size : Int) - 1 + (k : Int) * -1).toNat = xs.size - 1 - k := by omega
        rw [List.filterMap_cons, List.filterMap_cons, ih fun j hj => h j (List.mem_cons_of_mem _ hj), e1]
        rfl
    exact go _ fun k hk => List.mem_range.mp hk
  rw [e, PySem.W.krv_range, List.filterMap_reverse, PySem.W.krv_all]
section
variable {prog : Program} {w : World} {A : Around} {E : Value → Shared → Prop} {s : Shared}
theorem sliceApplied_back {sl : Addr} {vs : Value} {n : Nat} {Q : Int × Int × Nat → Shared → Prop} (hs : s.heap.IsSliceOf sl .none .none vs) (ps : IsPart vs (some (-1)))
    (h : Q ((n : Int) - 1, -1, n) s) : wpAny (model prog w) A (Builtin.Slice.sliceApplied (.ref sl) (pure (n : Int))) Q E s := by
  obtain ⟨os, hos, hcs, hds⟩ := id hs
  unfold Builtin.Slice.sliceApplied Builtin.Slice.sliceFields
  refine wpAny_bind (wpAny_bind (wpAny_field hos hds (x := .none) rfl (wpAny_bind (wpAny_field hos hds (x := .none) rfl (wpAny_bind (wpAny_field hos hds (x := vs) rfl (wpAny_pure ?_)))))))
  refine wpAny_bind (HT.slicePart_ ps ?_)
  show wpAny _ _ (if ((-1 : Int) == 0) = true then _ else _) _ _ s
  rw [if_neg (by decide)]
  refine wpAny_bind (HT.slicePart_ .none (wpAny_bind (HT.slicePart_ .none (wpAny_bind (wpAny_pure ?_)))))
  show wpAny _ _ (match Builtin.Slice.sliceAdjust none none (-1) (n : Int) with | (lo, hi) => pure (lo, (-1 : Int), Builtin.Slice.slicePlaces lo hi (-1))) _ _ s
  rw [adj_back n]
  show wpAny _ _ (pure ((n : Int) - 1, (-1 : Int), Builtin.Slice.slicePlaces ((n : Int) - 1) (-1) (-1))) _ _ s
  rw [places_back]
  exact wpAny_pure h
theorem getItem_tuple_back {t sl : Addr} {items : Array Value} {vs : Value} {Q : Value → Shared → Prop} (ht : IsTup s.heap t items) (hs : s.heap.IsSliceOf sl .none .none vs) (ps : IsPart vs (some (-1)))
    (h : Q (.ref s.heap.objs.size) { s with heap := s.heap.push { cls := .type "tuple", data := .seq items.toList.reverse.toArray } })
    (hsz : items.size ≤ sizeLine) : wpAny (model prog w) A (getItem (.ref t) (.ref sl)) Q E s := by
  have htake : sizeOk (.seq items.toList.reverse.toArray) := by
    show items.toList.reverse.toArray.size ≤ sizeLine
    rw [List.size_toArray, List.length_reverse, Array.length_toList]
    exact hsz
  obtain ⟨os, hos, hcs, hds⟩ := id hs
  have hTs : s.TypeIs (.ref sl) "slice" := ⟨os, hos, hcs⟩
  unfold getItem
  try with_reducible refine wpAny_holding ?_
  first | refine wpAny_bind (wpAny_pure ?_) | skip
  refine wpAny_bind (wpAny_sequenceKey ht.typeIs (by decide) ?_)
  refine wpAny_bind (wpAny_callSpecial?_slot (name := Str.ofString "__getitem__") ht.typeIs PyProof.Rows.slot_tuple_getitem
    (wpAny_call_entry PyProof.Rows.slot_tuple_getitem ht.typeIs entry_tuple_getitem ?_ (args_tuple_getitem _ _)))
  show wpAny _ _ (Builtin.Tuple.tupleItemsOf (.ref t) >>= _) _ _ s
  refine wpAny_bind (tupleItemsOf_ ht ?_)
  refine wpAny_bind (wpAny_typeOf hTs ?_)
  rw [if_pos (by decide)]
  refine wpAny_bind (sliceApplied_back hs ps ?_)
  have hno : ¬ ((((items.size : Int) - 1 == 0) && ((-1 : Int) == 1) && (items.size == items.size)) = true) := by
    rw [show ((-1 : Int) == 1) = false from rfl, Bool.and_false, Bool.false_and]
    exact Bool.false_ne_true
  show wpAny _ _ (if (((items.size : Int) - 1 == 0) && ((-1 : Int) == 1) && (items.size == items.size)) = true then _ else _) _ _ s
  rw [if_neg hno, pick_back]
  first
    | exact wpAny_bind (m := Builtin.Tuple.tupleExact _) (wpAny_newObj_type (wpAny_pure ⟨_, rfl, wpAny_pure h⟩) htake)
    | exact wpAny_bind (m := Builtin.Tuple.tupleExact _) (wpAny_newObj_type (wpAny_bind (wpAny_pure (wpAny_pure ⟨_, rfl, wpAny_pure h⟩))) htake)
    | exact wpAny_bind (wpAny_bind (m := Builtin.Tuple.tupleExact _) (wpAny_newObj_type (wpAny_pure (wpAny_pure ⟨_, rfl, wpAny_pure h⟩)) htake))
    | exact wpAny_bind (wpAny_bind (m := Builtin.Tuple.tupleExact _) (wpAny_newObj_type (wpAny_pure ⟨_, rfl, wpAny_pure h⟩) htake))
end
section
variable {X : Cx}
def tRevT (K : PySem.W.Frag) (te : TE) : TE := fun σ H Q => te σ H fun x H1 => ∃ a xs, x = .ref a ∧ SqT K H1 a xs ∧ ∀ p, H1 p = none → Q (.ref p) (upd H1 p (.tup xs.reverse))
theorem pe_revT {e : Expr} {te : TE} {k : Nat} {p1 p2 p3 pos : Pos} (he : PE X e te) : PE X (.Subscript e (.Slice none none (some (.UnaryOp .USub (.Constant (.int 1) k p1) p2)) p3) pos) (tRevT X.K te) := by
  refine ⟨fun pins s σ H Q I h => ?_⟩
  refine Subscript_ (thn (he.run pins s σ H _ I h) fun v s1 ⟨x, H1, I1, r1, q1⟩ => ?_)
  obtain ⟨a, xs, ex, hx, q⟩ := q1
  subst ex
  cases r1
  have hst : PO X (some (.UnaryOp .USub (.Constant (.int 1) k p1) p2)) (tPart (tUn (rU fun i => .int (-i)) (tC (.int 1)))) := po_some (pe_un un_neg pe_int)
  refine wpAny_Slice ?_
  rw [evalPart_none]
  refine wpAny_pure (wpAny_pure ?_)
  refine thn (hst.run pins s1 σ H1 (fun o H4 => o = some (-1) ∧ H4 = H1) I1 ⟨1, rfl, -1, rfl, rfl, rfl⟩) fun vs s4 ⟨o, H4, I4, ps, eo, e4⟩ => ?_
  subst eo e4
  have I5 : Inv X pins σ H4 { s4 with heap := s4.heap.push { cls := .type "slice", data := .fields #[.none, .none, vs] } } := I4.kept (t' := s4.toks) fun b ob q => Heap.get?_push_of_some _ q
  obtain ⟨its, r, ht, hz⟩ := I5.tuple hx
  have hlen := r.length
  show wpAny (model X.prog X.w) X.A (subscriptTail e (.Slice none none (some (.UnaryOp .USub (.Constant (.int 1) k p1) p2)) p3) (.ref a) (.ref s4.heap.objs.size)) (EP X pins σ Q) X.xe { s4 with heap := s4.heap.push { cls := .type "slice", data := .fields #[.none, .none, vs] } }
  refine tail_any (ops := [.ref a, .ref s4.heap.objs.size]) ht.typeIs PyProof.Rows.slot_tuple_getitem.lookup ?_ (by with_unfolding_all rfl)
  refine getItem_tuple_back ht (Heap.IsSliceOf.new _ .none .none vs) ps ?_ (by rw [List.size_toArray]; omega)
  refine ⟨.ref _, _, I5.laid (t' := s4.toks) (o := .tup xs.reverse) (fun b ob q => Heap.get?_push_of_some _ q) (Nat.le_refl _) ?_, rfl, q _ (I5.hok.fresh (Nat.le_refl _))⟩
  exact ⟨by rw [List.length_reverse]; exact hz, its.reverse, r.reverse, ⟨_, Heap.get?_push_size _ rfl, rfl, _, rfl⟩⟩
def dRev : PyData → Option PyData
  | .list xs => some (.list xs.reverse)
  | .tuple xs => some (.tuple xs.reverse)
  | _ => none
theorem de_rev {a : Expr} {ta : En → Option PyData} {k : Nat} {p1 p2 p3 pos : Pos} (ha : DS X a ta) : DE X (.Subscript a (.Slice none none (some (.UnaryOp .USub (.Constant (.int 1) k p1) p2)) p3) pos) (eUn dRev ta) := ⟨fun B G0 E σ H G d Q I ht q => by
  unfold eUn at ht
  cases et : ta E with
  | none => rw [et] at ht; cases ht
  | some d1 =>
    rw [et] at ht
    cases d1 with
    | list ds =>
      cases ht
      refine PE.b (pe_revL (best_pe X a)) ?_
      refine ha.run B G0 E σ H G _ _ I et fun v H1 G1 x1 h1 => ?_
      obtain ⟨p, xs, rfl, g1, g2⟩ := h1.list x1.s
      exact ⟨p, xs, rfl, g1, fun r hr => q _ _ _ (x1.trans (.new x1.s hr)) (.lst (.inl (.inl upd_same)) (g2.reverse.mo (same_upd (x1.s.free hr))))⟩
    | tuple ds =>
      cases ht
      refine PE.b (pe_revT (best_pe X a)) ?_
      refine ha.run B G0 E σ H G _ _ I et fun v H1 G1 x1 h1 => ?_
      obtain ⟨p, xs, rfl, g1, g2⟩ := h1.tuple x1.s
      exact ⟨p, xs, rfl, g1, fun r hr => q _ _ _ (x1.trans (.new x1.s hr)) (.tup (.inl (.inl upd_same)) (g2.reverse.mo (same_upd (x1.s.free hr))))⟩
    | _ => cases ht⟩
end
/-! ### a def that calls itself -/
theorem FnOk.no {P : Program} {w : World} {K : PySem.W.Frag} {mg : Str → Option Value} {base : Heap} {k n : Nat} {f : Addr} {fd : FuncData} {ps : List Str} : FnOk P w K mg base CX0 k f fd ps (spD K n fun _ => none) :=
  ⟨fun vs H Q E ⟨_, _, _, _, _, _, h, _⟩ => (by cases h), fun A outer s H args us vs Q E _ _ _ _ ⟨_, _, _, _, _, _, h, _⟩ => (by cases h)⟩
def iter (S : (List PyData → Option PyData) → List PyData → Option PyData) : Nat → List PyData → Option PyData
  | 0 => fun _ => none
  | n + 1 => S (iter S n)
theorem recCl {P : Program} {w : World} {K : PySem.W.Frag} {mg : Str → Option Value} {base : Heap} {k : Nat} {x qual : Str} {n : Nat} {f : Addr} {fd : FuncData} {ps : List Str} {st : Stmt} (S : (List PyData → Option PyData) → List PyData → Option PyData) (D : Fun K x qual st f fd) (hm : mg x = some (.ref f)) (hb : Binds K fd ps [])
    (hn : ps.length = n) (h : ∀ (j : Nat) (F : List PyData → Option PyData), k ≤ j → Cl P w K mg base j x n F → FnOk P w K mg base CX0 (j + 1) f fd ps (spD K n (S F))) : ∀ m, Cl P w K mg base (k + m) x n (iter S m)
  | 0 => ⟨⟨f, fd, ps, hn, hm, D.kp, hb, FnOk.no⟩⟩
  | m + 1 => ⟨⟨f, fd, ps, hn, hm, D.kp, hb, h (k + m) _ (Nat.le_add_right k m) (recCl S D hm hb hn h m)⟩⟩
theorem Cl.fix {P : Program} {w : World} {K : PySem.W.Frag} {mg : Str → Option Value} {base : Heap} {k : Nat} {x : Str} {n : Nat} {F F' : List PyData → Option PyData} (h : Cl P w K mg base k x n F) (hf : ∀ ds d, ds.length = n → F' ds = some d → F ds = some d) : Cl P w K mg base k x n F' := by
  obtain ⟨f, fd, ps, a, b, c, d, e⟩ := h.ok
  exact ⟨⟨f, fd, ps, a, b, c, d, e.fn hf⟩⟩
/-! ### loops over data -/
theorem forD_st {body : PyData → En → Option Ou} {ds : List PyData} (St : Nat → En) (h : ∀ (j : Nat) d, ds[j]? = some d → body d (St j) = some (.nx (St (j + 1)))) : forD body ds (St 0) = some (.nx (St ds.length)) := by
  have go : ∀ (r : List PyData) (j : Nat), ds.drop j = r → j ≤ ds.length → forD body r (St j) = some (.nx (St ds.length)) := by
    intro r
    induction r with
    | nil =>
      intro j e hj
      have : ds.length ≤ j := by
        have := congrArg List.length e
        rw [List.length_drop] at this
        simp at this
        omega
      have : j = ds.length := by omega
      subst this
      rfl
    | cons d r ih =>
      intro j e hj
      have hd : ds[j]? = some d := by
        have := congrArg (·[0]?) e
        simpa using this
      have hlt : j < ds.length := (List.getElem?_eq_some_iff.mp hd).1
      show (body d (St j)).bind _ = _
      rw [h j d hd]
      refine ih (j + 1) ?_ hlt
      have := congrArg List.tail e
      simpa [List.tail_drop] using this
  exact go ds 0 rfl (Nat.zero_le _)
theorem forD_inv {body : PyData → En → Option Ou} (P : En → Prop) : ∀ (ds : List PyData) (E : En), P E → (∀ d ∈ ds, ∀ E, P E → ∃ E', body d E = some (.nx E') ∧ P E') → ∃ E', forD body ds E = some (.nx E') ∧ P E'
  | [], E, h, _ => ⟨E, rfl, h⟩
  | d :: r, E, h, hb => by
    obtain ⟨E1, e1, p1⟩ := hb d List.mem_cons_self E h
    obtain ⟨E2, e2, p2⟩ := forD_inv P r E1 p1 fun x hx => hb x (List.mem_cons_of_mem _ hx)
    refine ⟨E2, ?_, p2⟩
    show (body d E).bind _ = _
    rw [e1]
    exact e2
theorem forD_ret {body : PyData → En → Option Ou} {ds : List PyData} {r : PyData} (P : Nat → En → Prop) (R : Nat → Prop) (h : ∀ (j : Nat) d E, ds[j]? = some d → P j E → (∃ E', body d E = some (.nx E') ∧ P (j + 1) E') ∨ (body d E = some (.rt r) ∧ R j)) {E : En} (h0 : P 0 E) :
    (∃ E', forD body ds E = some (.nx E') ∧ P ds.length E') ∨ (forD body ds E = some (.rt r) ∧ ∃ j, j < ds.length ∧ R j) := by
  have go : ∀ (l : List PyData) (j : Nat) (E : En), ds.drop j = l → j ≤ ds.length → P j E → (∃ E', forD body l E = some (.nx E') ∧ P ds.length E') ∨ (forD body l E = some (.rt r) ∧ ∃ j, j < ds.length ∧ R j) := by
    intro l
    induction l with
    | nil =>
      intro j E e hj p
      have : ds.length ≤ j := by
        have := congrArg List.length e
        rw [List.length_drop] at this
        simp at this
        omega
      have : j = ds.length := by omega
      subst this
      exact .inl ⟨E, rfl, p⟩
    | cons d l ih =>
      intro j E e hj p
      have hd : ds[j]? = some d := by
        have := congrArg (·[0]?) e
        simpa using this
      have hlt : j < ds.length := (List.getElem?_eq_some_iff.mp hd).1
      have e2 : ds.drop (j + 1) = l := by
        have := congrArg List.tail e
        simpa [List.tail_drop] using this
      rcases h j d E hd p with ⟨E1, e1, p1⟩ | ⟨e1, r1⟩
      · rcases ih (j + 1) E1 e2 hlt p1 with ⟨E2, e3, p2⟩ | ⟨e3, q⟩
        · refine .inl ⟨E2, ?_, p2⟩
          show (body d E).bind _ = _
          rw [e1]
          exact e3
        · refine .inr ⟨?_, q⟩
          show (body d E).bind _ = _
          rw [e1]
          exact e3
      · refine .inr ⟨?_, j, hlt, r1⟩
        show (body d E).bind _ = _
        rw [e1]
        rfl
  exact go ds 0 E rfl (Nat.zero_le _) h0
theorem forD_ix {body : PyData → En → Option Ou} {ds : List PyData} (P : Nat → En → Prop) (h : ∀ (j : Nat) d E, ds[j]? = some d → P j E → ∃ E', body d E = some (.nx E') ∧ P (j + 1) E') {E : En} (h0 : P 0 E) : ∃ E', forD body ds E = some (.nx E') ∧ P ds.length E' := by
  rcases forD_ret (r := .none) P (fun _ => False) (fun j d E hd p => .inl (h j d E hd p)) h0 with h | ⟨_, _, _, h⟩
  · exact h
  · exact h.elim
theorem rangeD_length (lo : Int) (n : Nat) : (rangeD lo n).length = n := by
  unfold rangeD
  rw [List.length_map, List.length_range]
theorem rangeD_get {lo : Int} {n j : Nat} {d : PyData} (h : (rangeD lo n)[j]? = some d) : j < n ∧ d = .int (lo + (j : Nat)) := by
  have hj : j < n := by
    have := (List.getElem?_eq_some_iff.mp h).1
    rwa [rangeD_length] at this
  unfold rangeD at h
  rw [List.getElem?_map, List.getElem?_range hj] at h
  exact ⟨hj, (Option.some.inj h).symm⟩
theorem forR_ix {body : PyData → En → Option Ou} {lo : Int} {n : Nat} (P : Nat → En → Prop) (h : ∀ (j : Nat) E, j < n → P j E → ∃ E', body (.int (lo + (j : Nat))) E = some (.nx E') ∧ P (j + 1) E') {E : En} (h0 : P 0 E) : ∃ E', forD body (rangeD lo n) E = some (.nx E') ∧ P n E' := by
  have := forD_ix (ds := rangeD lo n) P (fun j d E hd p => by
    obtain ⟨hj, rfl⟩ := rangeD_get hd
    exact h j E hj p) h0
  rwa [rangeD_length] at this
theorem forR_ret {body : PyData → En → Option Ou} {lo : Int} {n : Nat} {r : PyData} (P : Nat → En → Prop) (R : Nat → Prop) (h : ∀ (j : Nat) E, j < n → P j E → (∃ E', body (.int (lo + (j : Nat))) E = some (.nx E') ∧ P (j + 1) E') ∨ (body (.int (lo + (j : Nat))) E = some (.rt r) ∧ R j)) {E : En} (h0 : P 0 E) :
    (∃ E', forD body (rangeD lo n) E = some (.nx E') ∧ P n E') ∨ (forD body (rangeD lo n) E = some (.rt r) ∧ ∃ j, j < n ∧ R j) := by
  have := forD_ret (ds := rangeD lo n) (r := r) P R (fun j d E hd p => by
    obtain ⟨hj, rfl⟩ := rangeD_get hd
    exact h j E hj p) h0
  rwa [rangeD_length] at this
theorem lcD_map {step : PyData → Option (Option PyData)} {α : Type} {f : α → PyData} {g : α → PyData} : ∀ (xs : List α), (∀ x ∈ xs, step (f x) = some (some (g x))) → lcD step (xs.map f) = some (xs.map g)
  | [], _ => rfl
  | x :: r, h => by
    show (step (f x)).bind _ = _
    rw [h x List.mem_cons_self]
    show (lcD step (r.map f)).bind _ = _
    rw [lcD_map r fun y hy => h y (List.mem_cons_of_mem _ hy)]
    rfl
theorem lcD_filter {step : PyData → Option (Option PyData)} {α : Type} {f : α → PyData} {g : α → PyData} {p : α → Bool} : ∀ (xs : List α), (∀ x ∈ xs, step (f x) = some (if p x then some (g x) else none)) → lcD step (xs.map f) = some ((xs.filter p).map g)
  | [], _ => rfl
  | x :: r, h => by
    show (step (f x)).bind _ = _
    rw [h x List.mem_cons_self]
    show (lcD step (r.map f)).bind _ = _
    rw [lcD_filter r fun y hy => h y (List.mem_cons_of_mem _ hy)]
    cases hp : p x with
    | true => rw [List.filter_cons_of_pos hp]; rfl
    | false => rw [List.filter_cons_of_neg (by rw [hp]; exact Bool.false_ne_true)]; rfl
end Pd

/-! equations to reckon with -/
namespace Pd
open PySem PySem.Spec PyProof.Rows L2
section
variable {t u : En → Option Ou} {c c2 : En → Option Bool} {ta tb tc : En → Option PyData} {r : En → Option (List PyData)} {E : En} {i j k : Nat} {d a b : PyData} {ds xs ys : List PyData} {p : Prop} [Decidable p]
/- statements -/
def thO (u : En → Option Ou) : Ou → Option Ou
  | .nx E => u E
  | .rt d => some (.rt d)
  | .bk E => some (.bk E)
  | .ct E => some (.ct E)
  | .ro r E => some (.ro r E)
theorem q_seq : sSeq t u E = (t E).bind (thO u) := by
  unfold sSeq
  congr 1
  funext o
  cases o <;> rfl
theorem q_thn : thO u (.nx E) = u E := rfl
theorem q_thr : thO u (.rt d) = some (.rt d) := rfl
theorem q_thb : thO u (.bk E) = some (.bk E) := rfl
theorem q_thc : thO u (.ct E) = some (.ct E) := rfl
theorem q_thro {o : OT} : thO u (.ro o E) = some (.ro o E) := rfl
def ifO (t u : En → Option Ou) (E : En) (b : Bool) : Option Ou := if b then t E else u E
theorem q_if : sIf c t u E = (c E).bind (ifO t u E) := rfl
theorem q_ift : ifO t u E true = t E := rfl
theorem q_iff : ifO t u E false = u E := rfl
theorem q_nil : sNil E = some (.nx E) := rfl
theorem q_ret : sRet ta E = (ta E).bind fun d => some (.rt d) := rfl
theorem q_retN : sRetN E = some (.rt .none) := rfl
def setC (i : Nat) (E : En) (d : PyData) : Option Ou := some (.nx (E.set i (.cl d)))
def setW (i : Nat) (E : En) (d : List PyData) : Option Ou := some (.nx (E.set i (.ow d)))
theorem q_set : sSet i ta E = (ta E).bind (setC i E) := rfl
theorem q_setO : sSetO i r E = (r E).bind (setW i E) := rfl
theorem q_setC : setC i E d = some (.nx (E.set i (.cl d))) := rfl
theorem q_setW : setW i E ds = some (.nx (E.set i (.ow ds))) := rfl
def frzO (i : Nat) (E : En) : Option Sl → En
  | some (.ow ds) => E.set i (.cl (.list ds))
  | some (.tr none t) => E.set i (.cl t.dat)
  | _ => E
theorem q_frz : sFrz i t E = t (frzO i E E[i]?) := by
  unfold sFrz frz frzO
  rfl
theorem q_frzo : frzO i E (some (.ow ds)) = E.set i (.cl (.list ds)) := rfl
theorem q_frzc : frzO i E (some (.cl d)) = E := rfl
theorem q_frzt {o : OT} : frzO i E (some (.tr none o)) = E.set i (.cl o.dat) := rfl
theorem q_frzt' {o : OT} {n : Nat} : frzO i E (some (.tr (some n) o)) = E := rfl
theorem q_frzr : frzO i E (some (.rd d)) = E := rfl
theorem q_frzu : frzO i E (some .un) = E := rfl
/- names -/
def slV : Option Sl → Option PyData
  | some (.cl d) => some d
  | some (.ow ds) => some (.list ds)
  | _ => none
def slC : Option Sl → Option PyData
  | some (.cl d) => some d
  | _ => none
def slO : Option Sl → Option (List PyData)
  | some (.ow ds) => some ds
  | _ => none
theorem q_V : eV i E = slV E[i]? := rfl
theorem q_C : eC i E = slC E[i]? := rfl
theorem q_ow : owAt E i = slO E[i]? := rfl
theorem q_Vc : slV (some (.cl d)) = some d := rfl
theorem q_Vo : slV (some (.ow ds)) = some (.list ds) := rfl
theorem q_Cc : slC (some (.cl d)) = some d := rfl
theorem q_Oo : slO (some (.ow ds)) = some ds := rfl
theorem q_K : eK d E = some d := rfl
theorem q_N : aN E = some [] := rfl
def aC1 (r : En → Option (List PyData)) (E : En) (d : PyData) : Option (List PyData) := (r E).map (List.cons d)
theorem q_aC : aC ta r E = (ta E).bind (aC1 r E) := by
  unfold aC aC1
  congr 1
  funext d
  cases r E <;> rfl
theorem q_aC1 : aC1 r E d = (r E).map (List.cons d) := rfl
theorem q_tup : eTup r E = (r E).bind chkT := rfl
theorem q_lst : eLst r E = (r E).bind chkL := rfl
theorem q_L : eL r E = (r E).map .list := rfl
/- tests -/
def b2 (f : Bool → Option PyData) (d : PyData) : Option PyData := (bOf d).bind f
theorem q_b : bOf (.bool true) = some true := rfl
theorem q_bb {x : Bool} : bOf (.bool x) = some x := rfl
theorem q_kB : kB ta E = (ta E).bind bOf := rfl
theorem q_kNot : kNot c E = (c E).map (!·) := rfl
def kif (b' : Bool) (u : En → Option Bool) (E : En) (b : Bool) : Option Bool := if b = b' then u E else some (!b')
theorem q_kAnd : kAnd c c2 E = (c E).bind (kif true c2 E) := by
  unfold kAnd kif
  congr 1
theorem q_kOr : kOr c c2 E = (c E).bind (kif false c2 E) := by
  unfold kOr kif
  congr 1
  funext b
  cases b <;> rfl
theorem q_kit : kif true c E true = c E := rfl
theorem q_kif : kif true c E false = some false := rfl
theorem q_kot : kif false c E true = some true := rfl
theorem q_kof : kif false c E false = c E := rfl
def eif (b' : Bool) (u : En → Option PyData) (E : En) (b : Bool) : Option PyData := if b = b' then u E else some (.bool (!b'))
theorem q_eAnd : eAnd ta tb E = ((ta E).bind bOf).bind (eif true tb E) := rfl
theorem q_eOr : eOr ta tb E = ((ta E).bind bOf).bind (eif false tb E) := by
  unfold eOr eif
  congr 1
  funext b
  cases b <;> rfl
theorem q_eit : eif true tb E true = tb E := rfl
theorem q_eif : eif true tb E false = some (.bool false) := rfl
theorem q_eot : eif false tb E true = some (.bool true) := rfl
theorem q_eof : eif false tb E false = tb E := rfl
def notO (b : Bool) : Option PyData := some (.bool (!b))
theorem q_eNot : eNot ta E = ((ta E).bind bOf).bind notO := rfl
theorem q_notO {b : Bool} : notO b = some (.bool (!b)) := rfl
def ifE (t u : En → Option PyData) (E : En) (b : Bool) : Option PyData := if b then t E else u E
theorem q_eIf : eIfE c ta tb E = (c E).bind (ifE ta tb E) := rfl
theorem q_eIt : ifE ta tb E true = ta E := rfl
theorem q_eIff : ifE ta tb E false = tb E := rfl
/- operators -/
def bin1 (g : PyData → PyData → Option PyData) (tb : En → Option PyData) (E : En) (a : PyData) : Option PyData := (tb E).bind (g a)
variable {g g' : PyData → PyData → Option PyData}
theorem q_bin : eBin g ta tb E = (ta E).bind (bin1 g tb E) := rfl
theorem q_bin1 : bin1 g tb E a = (tb E).bind (g a) := rfl
def ch1 (g g' : PyData → PyData → Option PyData) (tb tc : En → Option PyData) (E : En) (a : PyData) : Option PyData := (tb E).bind fun b => ((g a b).bind bOf).bind fun k => if k then (tc E).bind fun c => g' b c else some (.bool false)
def ch2 (g g' : PyData → PyData → Option PyData) (tc : En → Option PyData) (E : En) (a b : PyData) : Option PyData := ((g a b).bind bOf).bind fun k => if k then (tc E).bind fun c => g' b c else some (.bool false)
def ch3 (g' : PyData → PyData → Option PyData) (tc : En → Option PyData) (E : En) (b : PyData) (k : Bool) : Option PyData := if k then (tc E).bind fun c => g' b c else some (.bool false)
theorem q_ch : eChain g g' ta tb tc E = (ta E).bind (ch1 g g' tb tc E) := rfl
theorem q_ch1 : ch1 g g' tb tc E a = (tb E).bind (ch2 g g' tc E a) := rfl
theorem q_ch2 : ch2 g g' tc E a b = ((g a b).bind bOf).bind (ch3 g' tc E b) := rfl
theorem q_ch3t : ch3 g' tc E b true = (tc E).bind (g' b) := rfl
theorem q_ch3f : ch3 g' tc E b false = some (.bool false) := rfl
variable {m n : Int} {x y : Str}
theorem q_addI : dAdd (.int m) (.int n) = some (.int (m + n)) := rfl
theorem q_addS : dAdd (.str x) (.str y) = chkS (x ++ y) := rfl
theorem q_addT : dAdd (.tuple xs) (.tuple ys) = chkT (xs ++ ys) := rfl
theorem q_addL : dAdd (.list xs) (.list ys) = chkLd (xs ++ ys) := rfl
theorem q_sub : dSub (.int m) (.int n) = some (.int (m - n)) := rfl
theorem q_mul : dMul (.int m) (.int n) = mulC m n := rfl
theorem q_mulT : dMul (.tuple xs) (.int n) = repC xs n := rfl
theorem q_imul : dImul (.int m) (.int n) = imulC m n := rfl
theorem q_iadd : dIadd (.int m) (.int n) = some (.int (m + n)) := rfl
theorem q_iaddS : dIadd (.str x) (.str y) = chkS (x ++ y) := rfl
theorem q_fdiv : dFdiv (.int m) (.int n) = fdivC m n := rfl
theorem q_mod : dMod (.int m) (.int n) = modC m n := rfl
theorem q_pow : dPow (.int m) (.int n) = powC m n := rfl
theorem q_lsh : dLsh (.int m) (.int n) = lshC m n := rfl
theorem q_rsh : dRsh (.int m) (.int n) = rshC m n := rfl
theorem q_band : dBand (.int m) (.int n) = some (.int (Builtin.bitAnd m n)) := rfl
theorem q_lt : dLt (.int m) (.int n) = some (.bool (decide (m < n))) := rfl
theorem q_le : dLe (.int m) (.int n) = some (.bool (decide (m ≤ n))) := rfl
theorem q_gt : dGt (.int m) (.int n) = some (.bool (decide (n < m))) := rfl
theorem q_ge : dGe (.int m) (.int n) = some (.bool (decide (n ≤ m))) := rfl
theorem q_eqI : dEq (.int m) (.int n) = some (.bool (m == n)) := rfl
theorem q_neI : dNe (.int m) (.int n) = some (.bool (!(m == n))) := rfl
theorem q_isB {e f : Bool} : dIs (.bool e) (.bool f) = some (.bool (decide (e = f))) := rfl
theorem q_isN : dIs a .none = some (.bool (isNoneD a)) := by cases a <;> rfl
theorem q_isnB {e f : Bool} : dIsNot (.bool e) (.bool f) = some (.bool (!decide (e = f))) := rfl
theorem q_isnN : dIsNot a .none = some (.bool (!isNoneD a)) := by cases a <;> rfl
theorem q_neg : dNeg (.int m) = some (.int (-m)) := rfl
variable {h : PyData → Option PyData}
theorem q_un : eUn h ta E = (ta E).bind h := rfl
theorem q_revL : dRev (.list xs) = some (.list xs.reverse) := rfl
theorem q_revT : dRev (.tuple xs) = some (.tuple xs.reverse) := rfl
theorem q_ixL : dIx (.list xs) (.int m) = atI xs m := rfl
theorem q_ixT : dIx (.tuple xs) (.int m) = atI xs m := rfl
theorem q_iOf : iOf (.int m) = some m := rfl
theorem q_oN : oN E = some none := rfl
theorem q_oS : oS ta E = ((ta E).bind iOf).map some := rfl
def sl1 (l u : En → Option (Option Int)) (E : En) (d : PyData) : Option PyData := (l E).bind fun lo => (u E).bind fun hi => dSl d lo hi
def sl2 (u : En → Option (Option Int)) (E : En) (d : PyData) (lo : Option Int) : Option PyData := (u E).bind fun hi => dSl d lo hi
variable {l v : En → Option (Option Int)} {lo hi : Option Int}
theorem q_sl : eSl ta l v E = (ta E).bind (sl1 l v E) := rfl
theorem q_sl1 : sl1 l v E d = (l E).bind (sl2 v E d) := rfl
theorem q_sl2 : sl2 v E d lo = (v E).bind (dSl d lo) := rfl
theorem q_slT : dSl (.tuple xs) lo hi = some (.tuple (cutD xs lo hi)) := rfl
theorem q_slL : dSl (.list xs) lo hi = some (.list (cutD xs lo hi)) := rfl
/- calls -/
variable {F : List PyData → Option PyData} {Fl : List PyData → Option (List PyData)}
theorem q_call : eCall F r E = (r E).bind F := rfl
theorem q_cb : eCb F r E = (r E).bind F := rfl
theorem q_cf : eCf Fl r E = (r E).bind Fl := rfl
theorem q_lenL : dLen [.list xs] = some (.int xs.length) := rfl
theorem q_lenT : dLen [.tuple xs] = some (.int xs.length) := rfl
theorem q_intI : dInt [.int m] = some (.int m) := rfl
theorem q_intB {e : Bool} : dInt [.bool e] = some (.int (if e then 1 else 0)) := rfl
theorem q_abs : dAbs [.int m] = some (.int (if m < 0 then -m else m)) := rfl
theorem q_tupL : dTup [.list xs] = some (.tuple xs) := rfl
theorem q_tupT : dTup [.tuple xs] = some (.tuple xs) := rfl
theorem q_listL : dList [.list xs] = some xs := rfl
theorem q_listT : dList [.tuple xs] = some xs := rfl
theorem q_sort : dSortI [.list xs] = (iL xs).map fun ns => (sortI ns).map .int := rfl
theorem q_all : dAll [.list xs] = (bL xs).map fun bs => .bool (bs.all id) := rfl
theorem q_max2 : dMax [.int m, .int n] = some (.int (if n > m then n else m)) := rfl
theorem q_min2 : dMin [.int m, .int n] = some (.int (if n < m then n else m)) := rfl
theorem q_sumL : dSum [.list xs] = (iL xs).map fun ns => .int ns.sum := rfl
theorem q_sumT : dSum [.tuple xs] = (iL xs).map fun ns => .int ns.sum := rfl
def isO (T : String) (d : PyData) : Option PyData := some (.bool (isD T d))
theorem q_isi {T : String} : eIsi T ta E = (ta E).bind (isO T) := rfl
theorem q_isO {T : String} : isO T d = some (.bool (isD T d)) := rfl
/- walks -/
theorem q_iseq : iSeq ta E = (ta E).bind itD := rfl
theorem q_itL : itD (.list xs) = some xs := rfl
theorem q_itT : itD (.tuple xs) = some xs := rfl
def rng1 (m : Int) (n : Int) : Option (List PyData) := rngD m n
theorem q_r1 : iRange1 ta E = ((ta E).bind iOf).bind (rngD 0) := rfl
def rng2 (tb : En → Option PyData) (E : En) (m : Int) : Option (List PyData) := ((tb E).bind iOf).bind (rngD m)
theorem q_r2 : iRange2 ta tb E = ((ta E).bind iOf).bind (rng2 tb E) := rfl
theorem q_r2' : rng2 tb E m = ((tb E).bind iOf).bind (rngD m) := rfl
theorem q_gN : gN i d E = some (E.set i (.cl d)) := rfl
theorem q_gT {is : List Nat} : gT is (.tuple ds) E = setAll is ds E := rfl
theorem q_gTL {is : List Nat} : gT is (.list ds) E = setAll is ds E := rfl
theorem q_sAn : setAll [] [] E = some E := rfl
theorem q_sAc {is : List Nat} : setAll (i :: is) (d :: ds) E = setAll is ds (E.set i (.cl d)) := rfl
/- lists of one's own -/
def app1 (i : Nat) (E : En) (d : PyData) : Option Ou := (owAt E i).bind fun ds => (chkL (ds ++ [d])).bind fun es => some (.nx (E.set i (.ow es)))
def app2 (i : Nat) (E : En) (d : PyData) (ds : List PyData) : Option Ou := (chkL (ds ++ [d])).bind (setW i E)
theorem q_app : sApp i ta E = (ta E).bind (app1 i E) := rfl
theorem q_app1 : app1 i E d = (slO E[i]?).bind (app2 i E d) := rfl
theorem q_app2 : app2 i E d ds = (chkL (ds ++ [d])).bind (setW i E) := rfl
def put1 (i : Nat) (tk : En → Option PyData) (E : En) (d : PyData) : Option Ou := ((tk E).bind iOf).bind fun k => (owAt E i).bind fun ds => (ixN ds.length k).bind fun j => some (.nx (E.set i (.ow (ds.set j d))))
def put2 (i : Nat) (E : En) (d : PyData) (k : Int) : Option Ou := (owAt E i).bind fun ds => (ixN ds.length k).bind fun j => some (.nx (E.set i (.ow (ds.set j d))))
def put3 (i : Nat) (E : En) (d : PyData) (k : Int) (ds : List PyData) : Option Ou := (ixN ds.length k).bind fun j => some (.nx (E.set i (.ow (ds.set j d))))
theorem q_put : sPut i tb ta E = (ta E).bind (put1 i tb E) := rfl
theorem q_put1 : put1 i tb E d = ((tb E).bind iOf).bind (put2 i E d) := rfl
theorem q_put2 : put2 i E d m = (slO E[i]?).bind (put3 i E d m) := rfl
theorem q_put3 : put3 i E d m ds = (ixN ds.length m).bind fun j => some (.nx (E.set i (.ow (ds.set j d)))) := rfl
theorem q_aug : sAug i g ta E = (eBin g (eC i) ta E).bind (setC i E) := rfl
def nxO (E : En) : Option Ou := some (.nx E)
def unp1 (is : List Nat) (E : En) (d : PyData) : Option Ou := (gT is d E).bind nxO
theorem q_unp {is : List Nat} : sUnp is ta E = (ta E).bind (unp1 is E) := rfl
theorem q_unp1 {is : List Nat} : unp1 is E d = (gT is d E).bind nxO := rfl
theorem q_nxO : nxO E = some (.nx E) := rfl
theorem q_par : sPar i j r E = (r E).bind (parOf i j E) := rfl
theorem q_parO : parOf i j E [a, b] = some (.nx ((E.set i (.cl a)).set j (.cl b))) := rfl
def outO : Ou → Option PyData
  | .rt d => some d
  | .nx _ => some .none
  | _ => none
theorem q_run {n : Nat} : runD n t ds = (t (start0 n ds)).bind outO := by
  unfold runD
  congr 1
theorem q_outr : outO (.rt d) = some d := rfl
theorem q_outn : outO (.nx E) = some .none := rfl
theorem z_bool_none  : isD "bool" .none = false := by
  show (kitB "NoneType" "bool").getD false = false
  decide +kernel
theorem z_bool_bool {e : Bool} : isD "bool" (.bool e) = true := by
  show (kitB "bool" "bool").getD false = true
  decide +kernel
theorem z_bool_int  : isD "bool" (.int m) = false := by
  show (kitB "int" "bool").getD false = false
  decide +kernel
theorem z_bool_str  : isD "bool" (.str x) = false := by
  show (kitB "str" "bool").getD false = false
  decide +kernel
theorem z_bool_list  : isD "bool" (.list xs) = false := by
  show (kitB "list" "bool").getD false = false
  decide +kernel
theorem z_bool_tuple  : isD "bool" (.tuple xs) = false := by
  show (kitB "tuple" "bool").getD false = false
  decide +kernel
theorem z_int_none  : isD "int" .none = false := by
  show (kitB "NoneType" "int").getD false = false
  decide +kernel
theorem z_int_bool {e : Bool} : isD "int" (.bool e) = true := by
  show (kitB "bool" "int").getD false = true
  decide +kernel
theorem z_int_int  : isD "int" (.int m) = true := by
  show (kitB "int" "int").getD false = true
  decide +kernel
theorem z_int_str  : isD "int" (.str x) = false := by
  show (kitB "str" "int").getD false = false
  decide +kernel
theorem z_int_list  : isD "int" (.list xs) = false := by
  show (kitB "list" "int").getD false = false
  decide +kernel
theorem z_int_tuple  : isD "int" (.tuple xs) = false := by
  show (kitB "tuple" "int").getD false = false
  decide +kernel
theorem z_tuple_none  : isD "tuple" .none = false := by
  show (kitB "NoneType" "tuple").getD false = false
  decide +kernel
theorem z_tuple_bool {e : Bool} : isD "tuple" (.bool e) = false := by
  show (kitB "bool" "tuple").getD false = false
  decide +kernel
theorem z_tuple_int  : isD "tuple" (.int m) = false := by
  show (kitB "int" "tuple").getD false = false
  decide +kernel
theorem z_tuple_str  : isD "tuple" (.str x) = false := by
  show (kitB "str" "tuple").getD false = false
  decide +kernel
theorem z_tuple_list  : isD "tuple" (.list xs) = false := by
  show (kitB "list" "tuple").getD false = false
  decide +kernel
theorem z_tuple_tuple  : isD "tuple" (.tuple xs) = true := by
  show (kitB "tuple" "tuple").getD false = true
  decide +kernel
theorem z_list_none  : isD "list" .none = false := by
  show (kitB "NoneType" "list").getD false = false
  decide +kernel
theorem z_list_bool {e : Bool} : isD "list" (.bool e) = false := by
  show (kitB "bool" "list").getD false = false
  decide +kernel
theorem z_list_int  : isD "list" (.int m) = false := by
  show (kitB "int" "list").getD false = false
  decide +kernel
theorem z_list_str  : isD "list" (.str x) = false := by
  show (kitB "str" "list").getD false = false
  decide +kernel
theorem z_list_list  : isD "list" (.list xs) = true := by
  show (kitB "list" "list").getD false = true
  decide +kernel
theorem z_list_tuple  : isD "list" (.tuple xs) = false := by
  show (kitB "tuple" "list").getD false = false
  decide +kernel
theorem z_str_none  : isD "str" .none = false := by
  show (kitB "NoneType" "str").getD false = false
  decide +kernel
theorem z_str_bool {e : Bool} : isD "str" (.bool e) = false := by
  show (kitB "bool" "str").getD false = false
  decide +kernel
theorem z_str_int  : isD "str" (.int m) = false := by
  show (kitB "int" "str").getD false = false
  decide +kernel
theorem z_str_str  : isD "str" (.str x) = true := by
  show (kitB "str" "str").getD false = true
  decide +kernel
theorem z_str_list  : isD "str" (.list xs) = false := by
  show (kitB "list" "str").getD false = false
  decide +kernel
theorem z_str_tuple  : isD "str" (.tuple xs) = false := by
  show (kitB "tuple" "str").getD false = false
  decide +kernel
theorem z_dict_none  : isD "dict" .none = false := by
  show (kitB "NoneType" "dict").getD false = false
  decide +kernel
theorem z_dict_bool {e : Bool} : isD "dict" (.bool e) = false := by
  show (kitB "bool" "dict").getD false = false
  decide +kernel
theorem z_dict_int  : isD "dict" (.int m) = false := by
  show (kitB "int" "dict").getD false = false
  decide +kernel
theorem z_dict_str  : isD "dict" (.str x) = false := by
  show (kitB "str" "dict").getD false = false
  decide +kernel
theorem z_dict_list  : isD "dict" (.list xs) = false := by
  show (kitB "list" "dict").getD false = false
  decide +kernel
theorem z_dict_tuple  : isD "dict" (.tuple xs) = false := by
  show (kitB "tuple" "dict").getD false = false
  decide +kernel
theorem q_for {ti : En → Option (List PyData)} {gg : PyData → En → Option En} : sFor ti gg t E = (ti E).bind fun ds => forD (fun d E => (gg d E).bind t) ds E := rfl
end
end Pd

/-! plain lemmas that many laws want -/
namespace Pd
open PySem PySem.Spec PyProof.Rows L2
theorem getDat {α : Type} {l : List α} {i : Nat} {d : α} (h : i < l.length) : l.getD i d = l[i] := by
  rw [List.getD_eq_getElem?_getD, List.getElem?_eq_getElem h]
  rfl
theorem getDout {α : Type} {l : List α} {i : Nat} {d : α} (h : l.length ≤ i) : l.getD i d = d := by
  rw [List.getD_eq_getElem?_getD, List.getElem?_eq_none h]
  rfl
theorem atI_mapInt (ns : List Int) (k : Int) : atI (ns.map PyData.int) k = (atI ns k).map .int := by
  unfold atI
  rw [List.length_map]
  cases ixN ns.length k with
  | none => rfl
  | some j => simp
theorem atI_some {α : Type} {xs : List α} {i : Int} (h0 : 0 ≤ i) (h : i < xs.length) : atI xs i = some (xs[i.toNat]'(by omega)) := by
  unfold atI ixN
  rw [if_pos h0, if_pos h]
  simp
theorem atI_nat' {α : Type} {xs : List α} {i : Nat} (h : i < xs.length) : atI xs (i : Int) = some xs[i] := by
  rw [atI_some (by omega) (by omega)]
  rfl
theorem atI_getD {ns : List Int} {i : Nat} (h : i < ns.length) : atI (ns.map PyData.int) (i : Int) = some (.int (ns.getD i 0)) := by
  rw [atI_some (xs := ns.map PyData.int) (by omega) (by rw [List.length_map]; omega)]
  rw [List.getElem_map, getDat h]
  rfl
/-- the last item -/
theorem atI_neg1 {α : Type} {xs : List α} (h : 0 < xs.length) : atI xs (-1) = some (xs[xs.length - 1]'(by omega)) := by
  unfold atI ixN
  rw [if_neg (by omega), if_pos (by omega)]
  have : ((-1 : Int) + xs.length).toNat = xs.length - 1 := by omega
  simp [this]
/-- the draw at a place, round and round -/
def drw (rs : List Int) (i : Int) : Int := rs.getD (i % (rs.length : Int)).toNat 0
theorem atI_drw {rs : List Int} (h : rs ≠ []) (i : Int) : atI (rs.map PyData.int) (i % (rs.length : Int)) = some (.int (drw rs i)) := by
  have hl : (0 : Int) < rs.length := by
    have := List.length_pos_iff.mpr h
    omega
  have h1 := Int.emod_nonneg i (show (rs.length : Int) ≠ 0 by omega)
  have h2 := Int.emod_lt_of_pos i hl
  rw [atI_some (xs := rs.map PyData.int) h1 (by rw [List.length_map]; exact h2)]
  unfold drw
  rw [List.getElem_map, getDat (by omega)]
theorem drw_mem {rs : List Int} (h : rs ≠ []) (i : Int) : drw rs i ∈ rs := by
  have hl : (0 : Int) < rs.length := by
    have := List.length_pos_iff.mpr h
    omega
  have h1 := Int.emod_nonneg i (show (rs.length : Int) ≠ 0 by omega)
  have h2 := Int.emod_lt_of_pos i hl
  unfold drw
  rw [getDat (by omega)]
  exact List.getElem_mem _
theorem getD_mem' {ns : List Int} {i : Nat} (h : i < ns.length) : ns.getD i 0 ∈ ns := by
  rw [getDat h]
  exact List.getElem_mem h
theorem sortI_length (l : List Int) : (sortI l).length = l.length := (sortI_perm l).length_eq
theorem mod_small {a b : Int} (hb : 0 < b) (h : b ≤ 2 ^ 64) : -(2 ^ 64) < a % b ∧ a % b < 2 ^ 64 := by
  have h1 := Int.emod_nonneg a (show b ≠ 0 by omega)
  have h2 := Int.emod_lt_of_pos a hb
  omega
theorem powC_of {i : Int} {j : Nat} (h : j ≤ 1000000) (h2 : i.natAbs < 2 ^ 64) : powC i (j : Int) = some (.int (i ^ j)) := by
  unfold powC
  rw [if_pos ⟨by omega, by omega, h2⟩, Int.toNat_natCast]
theorem pow18 : powC 10 18 = some (.int 1000000000000000000) := powC_of (j := 18) (by decide) (by decide)
theorem pow15 : powC 10 15 = some (.int 1000000000000000) := powC_of (j := 15) (by decide) (by decide)
theorem pow20 : powC 10 20 = some (.int 100000000000000000000) := powC_of (j := 20) (by decide) (by decide)
theorem pow9 : powC 10 9 = some (.int 1000000000) := powC_of (j := 9) (by decide) (by decide)
theorem pow6 : powC 10 6 = some (.int 1000000) := powC_of (j := 6) (by decide) (by decide)
theorem pow12 : powC 10 12 = some (.int 1000000000000) := powC_of (j := 12) (by decide) (by decide)
theorem getD_bd {ns : List Int} {B : Int} (hB : 0 ≤ B) (h : ∀ x ∈ ns, -B ≤ x ∧ x ≤ B) (i : Nat) : -B ≤ ns.getD i 0 ∧ ns.getD i 0 ≤ B := by
  by_cases hi : i < ns.length
  · rw [getDat hi]
    exact h _ (List.getElem_mem hi)
  · rw [getDout (by omega)]
    exact ⟨by show -B ≤ (0 : Int); omega, hB⟩
theorem log_small {i : Int} (h0 : 0 < i) (h : i < 100000) : i.natAbs.log2 < 9000 := by
  have : i.natAbs.log2 < 17 := (Nat.log2_lt (by omega)).mpr (by omega)
  omega
def prodL : List Int → Int
  | [] => 1
  | x :: r => x * prodL r
theorem prodL_append : ∀ l m : List Int, prodL (l ++ m) = prodL l * prodL m
  | [], m => (Int.one_mul _).symm
  | x :: r, m => by
    show x * prodL (r ++ m) = x * prodL r * prodL m
    rw [prodL_append r m, Int.mul_assoc]
theorem prodL_perm {l m : List Int} (h : l.Perm m) : prodL l = prodL m := by
  induction h with
  | nil => rfl
  | cons x _ ih =>
    show x * prodL _ = x * prodL _
    rw [ih]
  | swap x y l =>
    show y * (x * prodL l) = x * (y * prodL l)
    rw [← Int.mul_assoc, ← Int.mul_assoc, Int.mul_comm y x]
  | trans _ _ h1 h2 => rw [h1, h2]
/-- what a small remainder can be -/
theorem mod2 (a : Int) : a % 2 = 0 ∨ a % 2 = 1 := by omega
theorem mod3 (a : Int) : a % 3 = 0 ∨ a % 3 = 1 ∨ a % 3 = 2 := by omega
end Pd

namespace Pd
open PySem PySem.Spec PyProof.Rows L2
theorem pow25 : powC 10 25 = some (.int 10000000000000000000000000) := powC_of (j := 25) (by decide) (by decide)
theorem flat_one {α : Type} (d : α) : ∀ n : Nat, (List.replicate n [d]).flatten = List.replicate n d
  | 0 => rfl
  | n + 1 => by
    rw [List.replicate_succ, List.flatten_cons, flat_one d n, List.replicate_succ]
    rfl
theorem repC_one (d : PyData) {n : Int} (h1 : 1 ≤ n) (h2 : n ≤ 1000) : repC [d] n = some (.tuple (List.replicate n.toNat d)) := by
  unfold repC
  split
  · rename_i h
    subst h
    rfl
  · rw [if_pos ⟨by simp, by omega, h2, by simp⟩, flat_one]
theorem map_rep_int (n : Nat) (i : Int) : List.replicate n (PyData.int i) = (List.replicate n i).map .int := by simp
/-- a draw out of a list of numbers, by its place -/
theorem e_at {rs : List Int} {i : Nat} (h : i < rs.length) : atI (rs.map PyData.int) (i : Int) = some (.int (rs.getD i 0)) := atI_getD h
theorem mod_rng (a : Int) {b : Int} (h : 0 < b) : 0 ≤ a % b ∧ a % b < b := ⟨Int.emod_nonneg _ (by omega), Int.emod_lt_of_pos _ h⟩
theorem ints_bd {ns : List Int} {A B : Int} (h : ∀ x ∈ ns, A ≤ x ∧ x ≤ B) {f : Int → Int} {A' B' : Int} (hf : ∀ x, A ≤ x → x ≤ B → A' ≤ f x ∧ f x ≤ B') : ∀ x ∈ ns.map f, A' ≤ x ∧ x ≤ B' := fun x hx => by
  obtain ⟨y, hy, rfl⟩ := List.mem_map.mp hx
  exact hf y (h y hy).1 (h y hy).2
theorem turns {ns : List Int} {body : En → Option Ou} {m : Int} {r : Nat} (h0 : 0 ≤ m) (h1 : m ≤ 1000)
    (h : ∀ (k : Nat) (rest : En), (k : Int) < m → rest.length = r → ∃ rest' : En, rest'.length = r ∧ body (.cl (scrD ns) :: .cl (.int (k : Nat)) :: rest) = some (.nx (.cl (scrD ns) :: .cl (.int (k : Nat)) :: rest')))
    (z : Sl) (rest : En) (hr : rest.length = r) : ∃ (z' : Sl) (rest' : En), rest'.length = r ∧ sFor (iRange1 (eK (.int m))) (gN 1) body (.cl (scrD ns) :: z :: rest) = some (.nx (.cl (scrD ns) :: z' :: rest')) := by
  have e1 : iRange1 (eK (.int m)) (.cl (scrD ns) :: z :: rest) = some (rangeD 0 m.toNat) := by
    rw [q_r1]
    show rngD 0 m = _
    rw [rngD_of (m := 0) (n := m) (by omega) (by omega) (by omega) (by omega), Int.sub_zero]
  unfold sFor
  rw [e1, Option.bind_some]
  obtain ⟨E', e, z', rest', h2, rfl⟩ := forR_ix (lo := 0) (n := m.toNat) (body := fun d E => (gN 1 d E).bind body) (fun k E => ∃ (z' : Sl) (rest' : En), rest'.length = r ∧ E = .cl (scrD ns) :: z' :: rest') (fun k E hk ⟨z1, r1, hr1, e⟩ => by
    subst e
    rw [Int.zero_add]
    obtain ⟨r2, hr2, e2⟩ := h k r1 (by omega) hr1
    exact ⟨_, e2, _, _, hr2, rfl⟩) (E := .cl (scrD ns) :: z :: rest) ⟨_, _, hr, rfl⟩
  exact ⟨z', rest', h2, e⟩
mutual
/-- no dict in it, nothing long in it -/
def ndD : PyData → Bool
  | .dict _ => false
  | .tuple xs => decide (xs.length ≤ 100000) && ndAll xs
  | .list xs => decide (xs.length ≤ 100000) && ndAll xs
  | .none => true
  | .bool _ => true
  | .int _ => true
  | .str _ => true
def ndAll : List PyData → Bool
  | [] => true
  | x :: r => ndD x && ndAll r
end
theorem ndAll_mem : ∀ {xs : List PyData}, ndAll xs = true → ∀ x ∈ xs, ndD x = true
  | [], _, x, h => by cases h
  | y :: r, e, x, h => by
    unfold ndAll at e
    rw [Bool.and_eq_true] at e
    rcases List.mem_cons.mp h with rfl | h
    · exact e.1
    · exact ndAll_mem e.2 x h
theorem ndAll_of : ∀ {xs : List PyData}, (∀ x ∈ xs, ndD x = true) → ndAll xs = true
  | [], _ => rfl
  | y :: r, h => by
    unfold ndAll
    rw [Bool.and_eq_true]
    exact ⟨h y List.mem_cons_self, ndAll_of fun x hx => h x (List.mem_cons_of_mem _ hx)⟩
theorem ndD_t (xs : List PyData) : ndD (.tuple xs) = (decide (xs.length ≤ 100000) && ndAll xs) := by
  unfold ndD
  rfl
theorem ndD_l (xs : List PyData) : ndD (.list xs) = (decide (xs.length ≤ 100000) && ndAll xs) := by
  unfold ndD
  rfl
theorem ndD_tup {xs : List PyData} : ndD (.tuple xs) = true ↔ xs.length ≤ 100000 ∧ ∀ x ∈ xs, ndD x = true := by
  rw [ndD_t, Bool.and_eq_true, decide_eq_true_eq]
  exact ⟨fun h => ⟨h.1, ndAll_mem h.2⟩, fun h => ⟨h.1, ndAll_of h.2⟩⟩
theorem ndD_lst {xs : List PyData} : ndD (.list xs) = true ↔ xs.length ≤ 100000 ∧ ∀ x ∈ xs, ndD x = true := by
  rw [ndD_l, Bool.and_eq_true, decide_eq_true_eq]
  exact ⟨fun h => ⟨h.1, ndAll_mem h.2⟩, fun h => ⟨h.1, ndAll_of h.2⟩⟩
theorem ndD_ints {ns : List Int} (h : ns.length ≤ 100000) : ndD (.tuple (ns.map .int)) = true :=
  ndD_tup.mpr ⟨by simpa using h, fun x hx => by
    obtain ⟨i, _, rfl⟩ := List.mem_map.mp hx
    rfl⟩
/-- an integer that is no bool -/
def wholeB : PyData → Bool
  | .int _ => true
  | _ => false
theorem whole_int {d : PyData} (h : wholeB d = true) : ∃ i, d = .int i := by
  cases d with
  | int i => exact ⟨i, rfl⟩
  | _ => cases h
theorem whole_map (ns : List Int) : (ns.map PyData.int).all wholeB = true := by
  rw [List.all_eq_true]
  intro x hx
  obtain ⟨i, _, rfl⟩ := List.mem_map.mp hx
  rfl
theorem iL_whole : ∀ {ds : List PyData}, ds.all wholeB = true → ∃ ns : List Int, ds = ns.map .int
  | [], _ => ⟨[], rfl⟩
  | d :: r, h => by
    rw [List.all_cons, Bool.and_eq_true] at h
    obtain ⟨i, rfl⟩ := whole_int h.1
    obtain ⟨ns, rfl⟩ := iL_whole h.2
    exact ⟨i :: ns, rfl⟩
theorem iL_none {ds : List PyData} (h : iL ds = none) : ds.all wholeB = false := by
  cases e : ds.all wholeB with
  | false => rfl
  | true =>
    obtain ⟨ns, rfl⟩ := iL_whole e
    rw [iL_map] at h
    cases h
/-- falling, from one to six -/
def fallB (ns : List Int) : Bool := decide (((List.range (ns.length - 1)).filter fun k => decide (ns.getD k 0 < ns.getD (k + 1) 0)).length = 0)
def rowL : Option (List Int) → Bool
  | some ns => decide (1 ≤ ns.length ∧ ns.length ≤ 6) && fallB ns
  | none => false
def rowB : PyData → Bool
  | .tuple ds => rowL (iL ds)
  | _ => false
theorem rowB_t (ds : List PyData) : rowB (.tuple ds) = rowL (iL ds) := rfl
theorem rowB_no {ds : List PyData} (h : iL ds = none) : rowB (.tuple ds) = false := by
  rw [rowB_t, h]
  rfl
theorem rowB_ints (ns : List Int) : rowB (.tuple (ns.map .int)) = (decide (1 ≤ ns.length ∧ ns.length ≤ 6) && fallB ns) := by
  rw [rowB_t, iL_map]
  rfl
theorem rowB_true {d : PyData} (h : rowB d = true) : ∃ ns : List Int, d = .tuple (ns.map .int) ∧ 1 ≤ ns.length ∧ ns.length ≤ 6 ∧ fallB ns = true := by
  cases d with
  | tuple ds =>
    cases e : iL ds with
    | none =>
      rw [rowB_no e] at h
      cases h
    | some ns =>
      obtain rfl := iL_some e
      rw [rowB_ints, Bool.and_eq_true, decide_eq_true_eq] at h
      exact ⟨ns, rfl, h.1.1, h.1.2, h.2⟩
  | _ => cases h
theorem fallB_iff {ns : List Int} : fallB ns = true ↔ ∀ k, k + 1 < ns.length → ns.getD k 0 ≥ ns.getD (k + 1) 0 := by
  unfold fallB
  rw [decide_eq_true_eq, List.length_eq_zero_iff, List.filter_eq_nil_iff]
  constructor
  · intro h k hk
    have := h k (List.mem_range.mpr (by omega))
    simp only [decide_eq_true_eq] at this
    omega
  · intro h k hk
    have := h k (by have := List.mem_range.mp hk; omega)
    simp only [decide_eq_true_eq]
    omega
theorem fallB_all (ns : List Int) : ((List.range (ns.length - 1)).map fun k => decide (ns.getD k 0 ≥ ns.getD (k + 1) 0)).all id = fallB ns := by
  rw [Bool.eq_iff_iff, fallB_iff, List.all_eq_true]
  constructor
  · intro h k hk
    have := h _ (List.mem_map.mpr ⟨k, List.mem_range.mpr (by omega), rfl⟩)
    simpa using this
  · intro h x hx
    obtain ⟨k, hk, rfl⟩ := List.mem_map.mp hx
    have := h k (by have := List.mem_range.mp hk; omega)
    simpa using this
theorem fallB_of {ns : List Int} (h : ns.Pairwise (· ≥ ·)) : fallB ns = true := by
  rw [fallB_iff]
  intro k hk
  rw [getDat (by omega), getDat hk]
  exact List.pairwise_iff_getElem.mp h k (k + 1) (by omega) hk (by omega)
theorem e_last {ns : List Int} (h : 1 ≤ ns.length) : atI (ns.map PyData.int) (-1) = some (.int (ns.getD (ns.length - 1) 0)) := by
  rw [atI_neg1 (by rw [List.length_map]; omega), List.getElem_map, getDat (by omega)]
  simp
def lastL : Option (List Int) → Bool
  | some ns => decide (0 ≤ ns.getD (ns.length - 1) 0)
  | none => false
def lastB : PyData → Bool
  | .tuple ds => lastL (iL ds)
  | _ => false
def shapeB (d : PyData) : Bool := rowB d && lastB d
theorem shapeB_ints {ns : List Int} (h : rowB (.tuple (ns.map .int)) = true) : shapeB (.tuple (ns.map .int)) = decide (0 ≤ ns.getD (ns.length - 1) 0) := by
  unfold shapeB
  rw [h, Bool.true_and]
  show lastL (iL _) = _
  rw [iL_map]
  rfl
theorem cutD_mem {xs : List PyData} {lo hi : Option Int} {x : PyData} (h : x ∈ cutD xs lo hi) : x ∈ xs := by
  unfold cutD at h
  exact List.mem_of_mem_drop (List.mem_of_mem_take h)
theorem cutD_len (xs : List PyData) (lo hi : Option Int) : (cutD xs lo hi).length ≤ xs.length := by
  unfold cutD
  rw [List.length_take, List.length_drop]
  omega
theorem dep_mem : ∀ {xs : List PyData} {x : PyData}, x ∈ xs → x.depth ≤ PyData.depthAll xs
  | [], x, h => by cases h
  | y :: r, x, h => by
    unfold PyData.depthAll
    rcases List.mem_cons.mp h with rfl | h
    · exact Nat.le_max_left _ _
    · exact Nat.le_trans (dep_mem h) (Nat.le_max_right _ _)
mutual
/-- lists of at most L, texts of at most S, numbers up to B -/
def bdD (L S B : Nat) : PyData → Bool
  | .dict _ => false
  | .tuple xs => decide (xs.length ≤ L) && bdAll L S B xs
  | .list xs => decide (xs.length ≤ L) && bdAll L S B xs
  | .none => true
  | .bool _ => true
  | .int i => decide (i.natAbs ≤ B)
  | .str x => decide (x.length ≤ S) && SeqAt.shaped (.str x)
def bdAll (L S B : Nat) : List PyData → Bool
  | [] => true
  | x :: r => bdD L S B x && bdAll L S B r
end
theorem bdD_t {L S B : Nat} (xs : List PyData) : bdD L S B (.tuple xs) = (decide (xs.length ≤ L) && bdAll L S B xs) := by
  unfold bdD
  rfl
theorem bdD_l {L S B : Nat} (xs : List PyData) : bdD L S B (.list xs) = (decide (xs.length ≤ L) && bdAll L S B xs) := by
  unfold bdD
  rfl
theorem bdAll_iff {L S B : Nat} : ∀ {xs : List PyData}, bdAll L S B xs = true ↔ ∀ x ∈ xs, bdD L S B x = true
  | [] => by
    unfold bdAll
    simp
  | y :: r => by
    unfold bdAll
    rw [Bool.and_eq_true, bdAll_iff (xs := r), List.forall_mem_cons]
theorem bd_tup {L S B : Nat} {xs : List PyData} : bdD L S B (.tuple xs) = true ↔ xs.length ≤ L ∧ ∀ x ∈ xs, bdD L S B x = true := by
  rw [bdD_t, Bool.and_eq_true, decide_eq_true_eq, bdAll_iff]
theorem bd_lst {L S B : Nat} {xs : List PyData} : bdD L S B (.list xs) = true ↔ xs.length ≤ L ∧ ∀ x ∈ xs, bdD L S B x = true := by
  rw [bdD_l, Bool.and_eq_true, decide_eq_true_eq, bdAll_iff]
theorem bd_int {L S B : Nat} {i : Int} : bdD L S B (.int i) = true ↔ i.natAbs ≤ B := by
  unfold bdD
  exact decide_eq_true_iff
theorem bd_str {L S B : Nat} {x : Str} : bdD L S B (.str x) = true ↔ x.length ≤ S ∧ SeqAt.shaped (.str x) = true := by
  unfold bdD
  rw [Bool.and_eq_true, decide_eq_true_eq]
theorem shaped_str {x : Str} (h : x.cps.all (· < 0x110000) = true) : SeqAt.shaped (.str x) = true := by
  unfold SeqAt.shaped PyData.canLay0 PyData.depth
  rw [Bool.and_eq_true]
  exact ⟨h, rfl⟩
theorem shaped_cps {x : Str} (h : SeqAt.shaped (.str x) = true) : x.cps.all (· < 0x110000) = true := by
  unfold SeqAt.shaped PyData.canLay0 at h
  rw [Bool.and_eq_true] at h
  exact h.1
theorem shaped_of (s : String) : SeqAt.shaped (.str (Str.ofString s)) = true := by
  refine shaped_str ?_
  rw [Str.ofString_eq_toList]
  show ((s.toList.map Char.toNat).toArray).all _ = true
  rw [List.all_toArray, List.all_map, List.all_eq_true]
  intro c _
  refine decide_eq_true ?_
  show c.toNat < 0x110000
  have := c.valid
  rcases this with h | h
  · exact Nat.lt_trans h (by decide)
  · exact h.2
theorem shaped_app {x y : Str} (hx : SeqAt.shaped (.str x) = true) (hy : SeqAt.shaped (.str y) = true) : SeqAt.shaped (.str (x ++ y)) = true := by
  refine shaped_str ?_
  show (x.cps ++ y.cps).all _ = true
  rw [Array.all_append, shaped_cps hx, shaped_cps hy]
  rfl
theorem bd_ints {L S B : Nat} {ns : List Int} (h : ns.length ≤ L) (hb : ∀ x ∈ ns, x.natAbs ≤ B) : bdD L S B (.tuple (ns.map .int)) = true :=
  bd_tup.mpr ⟨by simpa using h, fun x hx => by
    obtain ⟨i, hi, rfl⟩ := List.mem_map.mp hx
    exact bd_int.mpr (hb i hi)⟩
mutual
theorem bd_mono {L S B L' S' B' : Nat} (h1 : L ≤ L') (h2 : S ≤ S') (h3 : B ≤ B') : ∀ d, bdD L S B d = true → bdD L' S' B' d = true
  | .dict _, h => by
    unfold bdD at h
    cases h
  | .tuple xs, h => by
    rw [bdD_t, Bool.and_eq_true, decide_eq_true_eq] at h ⊢
    exact ⟨Nat.le_trans h.1 h1, bdAll_mono h1 h2 h3 xs h.2⟩
  | .list xs, h => by
    rw [bdD_l, Bool.and_eq_true, decide_eq_true_eq] at h ⊢
    exact ⟨Nat.le_trans h.1 h1, bdAll_mono h1 h2 h3 xs h.2⟩
  | .none, _ => by
    unfold bdD
    rfl
  | .bool _, _ => by
    unfold bdD
    rfl
  | .int i, h => bd_int.mpr (Nat.le_trans (bd_int.mp h) h3)
  | .str x, h => bd_str.mpr ⟨Nat.le_trans (bd_str.mp h).1 h2, (bd_str.mp h).2⟩
theorem bdAll_mono {L S B L' S' B' : Nat} (h1 : L ≤ L') (h2 : S ≤ S') (h3 : B ≤ B') : ∀ xs, bdAll L S B xs = true → bdAll L' S' B' xs = true
  | [], _ => by
    unfold bdAll
    rfl
  | x :: r, h => by
    unfold bdAll at h ⊢
    rw [Bool.and_eq_true] at h ⊢
    exact ⟨bd_mono h1 h2 h3 x h.1, bdAll_mono h1 h2 h3 r h.2⟩
end
mutual
theorem bd_nd {L S B : Nat} (h1 : L ≤ 100000) : ∀ d, bdD L S B d = true → ndD d = true
  | .dict _, h => by
    unfold bdD at h
    cases h
  | .tuple xs, h => by
    rw [bdD_t, Bool.and_eq_true, decide_eq_true_eq] at h
    rw [ndD_t, Bool.and_eq_true, decide_eq_true_eq]
    exact ⟨Nat.le_trans h.1 h1, bdAll_nd h1 xs h.2⟩
  | .list xs, h => by
    rw [bdD_l, Bool.and_eq_true, decide_eq_true_eq] at h
    rw [ndD_l, Bool.and_eq_true, decide_eq_true_eq]
    exact ⟨Nat.le_trans h.1 h1, bdAll_nd h1 xs h.2⟩
  | .none, _ => by
    unfold ndD
    rfl
  | .bool _, _ => by
    unfold ndD
    rfl
  | .int i, h => by
    unfold ndD
    rfl
  | .str x, h => by
    unfold ndD
    rfl
theorem bdAll_nd {L S B : Nat} (h1 : L ≤ 100000) : ∀ xs, bdAll L S B xs = true → ndAll xs = true
  | [], _ => by
    unfold ndAll
    rfl
  | x :: r, h => by
    unfold bdAll at h
    unfold ndAll
    rw [Bool.and_eq_true] at h ⊢
    exact ⟨bd_nd h1 x h.1, bdAll_nd h1 r h.2⟩
end
theorem atI_mod {xs : List PyData} {n : Int} (hn : (xs.length : Int) = n) (h0 : 0 < n) {P : PyData → Prop} (hp : ∀ x ∈ xs, P x) (i : Int) : ∃ d, atI xs (i % n) = some d ∧ P d := by
  have h1 := mod_rng i h0
  rw [atI_some h1.1 (by omega)]
  exact ⟨_, rfl, hp _ (List.getElem_mem _)⟩
theorem str_len (i : Int) (h : i.natAbs < 10 ^ 100) : (toString i : Str).length ≤ 101 := by
  show (Str.ofString (toString i)).length ≤ 101
  have e : ∀ s : String, (Str.ofString s).length = s.length := fun s => by
    rw [Str.ofString_eq_toList]
    simp [Str.length, String.length_toList]
  rw [e]
  have h2 := (Nat.length_repr_le_iff (n := i.natAbs) (k := 100) (by decide)).mpr h
  cases i with
  | ofNat n =>
    show (Nat.repr n).length ≤ 101
    exact Nat.le_trans h2 (by decide)
  | negSucc n =>
    show ("-" ++ Nat.repr (n + 1)).length ≤ 101
    rw [String.length_append]
    have h2 : (Nat.repr (n + 1)).length ≤ 100 := h2
    have : ("-" : String).length = 1 := rfl
    omega
theorem strI_of {i : Int} (h : i.natAbs < 10 ^ 100) : dStrI [.int i] = some (.str (toString i)) := by
  refine if_pos ?_
  by_cases h0 : i.natAbs = 0
  · rw [h0]
    decide
  · exact (Nat.log2_lt h0).mpr (Nat.lt_trans h (by decide +kernel))
theorem dep_ints (ns : List Int) : (PyData.tuple (ns.map .int)).depth < 40 := by
  have : ∀ ns : List Int, PyData.depthAll (ns.map .int) = 0 := fun ns => by
    induction ns with
    | nil => rfl
    | cons x r ih =>
      rw [List.map_cons]
      unfold PyData.depthAll
      rw [ih]
      rfl
  unfold PyData.depth
  rw [this]
  decide
/-- one statement, then the rest -/
theorem seqE {f g : En → Option Ou} {E E1 : En} {r : Option Ou} (h1 : f E = some (.nx E1)) (h2 : g E1 = r) : sSeq f g E = r := by
  rw [← h2]
  show (f E).bind _ = _
  rw [h1]
  rfl
theorem cutD_nil {ns : List Int} (lo hi : Option Int) : cutD (ns.map PyData.int) lo hi = (cutD ns lo hi).map .int := by
  unfold cutD
  rw [List.map_take, List.map_drop, List.length_map]
theorem nd_ints_all {ns : List Int} : ∀ x ∈ ns.map PyData.int, ndD x = true := fun x hx => by
  obtain ⟨i, _, rfl⟩ := List.mem_map.mp hx
  unfold ndD
  rfl
theorem lay_ints : ∀ ns : List Int, PyData.canLayAll0 (ns.map .int) = true
  | [] => rfl
  | x :: r => by
    rw [List.map_cons]
    unfold PyData.canLayAll0
    rw [lay_ints r]
    rfl
theorem dall_ints : ∀ ns : List Int, PyData.depthAll (ns.map .int) = 0
  | [] => rfl
  | x :: r => by
    rw [List.map_cons]
    unfold PyData.depthAll
    rw [dall_ints r]
    rfl
theorem shaped_intL (ns : List Int) : SeqAt.shaped (.list (ns.map .int)) = true := by
  unfold SeqAt.shaped PyData.canLay0 PyData.depth
  rw [lay_ints, dall_ints]
  rfl
theorem shaped_intT (ns : List Int) : SeqAt.shaped (.tuple (ns.map .int)) = true := by
  unfold SeqAt.shaped PyData.canLay0 PyData.depth
  rw [lay_ints, dall_ints]
  rfl
theorem eqvAll_ints : ∀ a b : List Int, PyData.eqvAll (a.map .int) (b.map .int) = decide (a = b)
  | [], [] => rfl
  | [], y :: s => rfl
  | x :: r, [] => rfl
  | x :: r, y :: s => by
    rw [List.map_cons, List.map_cons]
    unfold PyData.eqvAll
    rw [eqvAll_ints r s]
    unfold PyData.eqv
    by_cases h1 : x = y
    · by_cases h2 : r = s
      · simp [h1, h2]
      · simp [h1, h2]
    · simp [h1]
theorem dEq_intL (a b : List Int) : dEq (.list (a.map .int)) (.list (b.map .int)) = some (.bool (decide (a = b))) := by
  unfold dEq
  rw [shaped_intL, shaped_intL]
  show some (PyData.bool (PyData.eqv _ _)) = _
  unfold PyData.eqv
  rw [eqvAll_ints]
theorem dNe_intL (a b : List Int) : dNe (.list (a.map .int)) (.list (b.map .int)) = some (.bool (!decide (a = b))) := by
  unfold dNe
  rw [shaped_intL, shaped_intL]
  show some (PyData.bool (!PyData.eqv _ _)) = _
  unfold PyData.eqv
  rw [eqvAll_ints]
theorem dEq_intT (a b : List Int) : dEq (.tuple (a.map .int)) (.tuple (b.map .int)) = some (.bool (decide (a = b))) := by
  unfold dEq
  rw [shaped_intT, shaped_intT]
  show some (PyData.bool (PyData.eqv _ _)) = _
  unfold PyData.eqv
  rw [eqvAll_ints]
theorem dNe_intT (a b : List Int) : dNe (.tuple (a.map .int)) (.tuple (b.map .int)) = some (.bool (!decide (a = b))) := by
  unfold dNe
  rw [shaped_intT, shaped_intT]
  show some (PyData.bool (!PyData.eqv _ _)) = _
  unfold PyData.eqv
  rw [eqvAll_ints]
/-- a loop that ends with r at the first item that does not pass -/
theorem forD_all {body : PyData → En → Option Ou} {ok : PyData → Bool} {r : PyData} (P : En → Prop) : ∀ (ds : List PyData) (E : En), P E →
    (∀ d ∈ ds, ∀ E, P E → (ok d = true ∧ ∃ E', body d E = some (.nx E') ∧ P E') ∨ (ok d = false ∧ body d E = some (.rt r))) →
    (ds.all ok = true ∧ ∃ E', forD body ds E = some (.nx E') ∧ P E') ∨ (ds.all ok = false ∧ forD body ds E = some (.rt r))
  | [], E, p, _ => .inl ⟨rfl, E, rfl, p⟩
  | d :: l, E, p, h => by
    rcases h d List.mem_cons_self E p with ⟨h1, E', e, p'⟩ | ⟨h1, e⟩
    · rcases forD_all P l E' p' (fun x hx => h x (List.mem_cons_of_mem _ hx)) with ⟨h2, E2, e2, p2⟩ | ⟨h2, e2⟩
      · refine .inl ⟨by rw [List.all_cons, h1, h2]; rfl, E2, ?_, p2⟩
        show (body d E).bind _ = _
        rw [e]
        exact e2
      · refine .inr ⟨by rw [List.all_cons, h1, h2]; rfl, ?_⟩
        show (body d E).bind _ = _
        rw [e]
        exact e2
    · refine .inr ⟨by rw [List.all_cons, h1]; rfl, ?_⟩
      show (body d E).bind _ = _
      rw [e]
      rfl
theorem map_id' {α : Type} (xs : List α) : xs = xs.map id := (List.map_id xs).symm
/-- rows of noughts and ones -/
def oneB : PyData → Bool
  | .int i => decide (0 ≤ i) && decide (i ≤ 1)
  | _ => false
def binB (w : Nat) : PyData → Bool
  | .tuple es => decide (es.length = w) && es.all oneB
  | _ => false
theorem oneB_whole {es : List PyData} (h : es.all oneB = true) : es.all wholeB = true := by
  rw [List.all_eq_true] at h ⊢
  intro x hx
  have := h x hx
  cases x with
  | int i => rfl
  | _ => cases this
theorem binB_rows {w : Nat} : ∀ {ds : List PyData}, ds.all (binB w) = true → ∃ vs : List (List Int), ds = vs.map (fun ns => PyData.tuple (ns.map .int)) ∧ ∀ ns ∈ vs, ns.length = w
  | [], _ => ⟨[], rfl, fun _ h => by cases h⟩
  | d :: l, h => by
    rw [List.all_cons, Bool.and_eq_true] at h
    obtain ⟨vs, rfl, hv⟩ := binB_rows h.2
    cases d with
    | tuple es =>
      have h1 : (decide (es.length = w) && es.all oneB) = true := h.1
      rw [Bool.and_eq_true, decide_eq_true_eq] at h1
      obtain ⟨ns, rfl⟩ := iL_whole (oneB_whole h1.2)
      refine ⟨ns :: vs, rfl, fun x hx => ?_⟩
      rcases List.mem_cons.mp hx with rfl | hx
      · rw [← h1.1, List.length_map]
      · exact hv x hx
    | _ => exact absurd h.1 Bool.false_ne_true
def rowInts : PyData → List Int
  | .tuple es => (iL es).getD []
  | _ => []
theorem rowInts_map (vs : List (List Int)) : (vs.map fun ns => PyData.tuple (ns.map .int)).map rowInts = vs := by
  rw [List.map_map]
  refine (List.map_congr_left fun ns _ => ?_).trans (List.map_id vs)
  show (iL (ns.map .int)).getD [] = ns
  rw [iL_map]
  rfl
def sumsI (vs : List (List Int)) : List Int := vs.map fun ns => ns.sum
def colsI (w : Nat) (vs : List (List Int)) : List Int := (List.range w).map fun k => (vs.map fun ns => ns.getD k 0).sum
/-- a table with these sums -/
def tableB (rows cols : List Int) : PyData → Bool
  | .tuple ds => decide (ds.length = rows.length) && (ds.all (binB cols.length) && (decide (sumsI (ds.map rowInts) = rows) && decide (colsI cols.length (ds.map rowInts) = cols)))
  | _ => false
theorem notIn01 (i : Int) : dNotIn (.int i) (.tuple [.int 0, .int 1]) = some (.bool (!oneB (.int i))) := by
  unfold dNotIn dIn0
  have e : flatD (.int i) = true := rfl
  have e2 : [PyData.int 0, .int 1].all flatD = true := rfl
  show ((if (flatD (.int i) && [PyData.int 0, .int 1].all flatD) = true then _ else none : Option Bool).map _) = _
  rw [e, e2]
  show some (PyData.bool (!([PyData.int 0, .int 1].any fun d => PyData.eqv d (.int i)))) = _
  congr 3
  show (PyData.eqv (.int 0) (.int i) || (PyData.eqv (.int 1) (.int i) || false)) = (decide (0 ≤ i) && decide (i ≤ 1))
  unfold PyData.eqv
  rw [Bool.eq_iff_iff]
  simp
  omega
theorem atI_mapL {α : Type} (f : α → PyData) (xs : List α) {k : Nat} (d : α) (h : k < xs.length) : atI (xs.map f) (k : Int) = some (f (xs.getD k d)) := by
  rw [atI_some (xs := xs.map f) (by omega) (by rw [List.length_map]; omega), List.getElem_map, getDat h]
  rfl
theorem rowB_rows : ∀ {ds : List PyData}, ds.all rowB = true → ∃ vs : List (List Int), ds = vs.map (fun ns => PyData.tuple (ns.map .int)) ∧ ∀ ns ∈ vs, 1 ≤ ns.length ∧ ns.length ≤ 6 ∧ fallB ns = true
  | [], _ => ⟨[], rfl, fun _ h => by cases h⟩
  | d :: l, h => by
    rw [List.all_cons, Bool.and_eq_true] at h
    obtain ⟨vs, rfl, hv⟩ := rowB_rows h.2
    obtain ⟨ns, rfl, h1, h2, h3⟩ := rowB_true h.1
    refine ⟨ns :: vs, rfl, fun x hx => ?_⟩
    rcases List.mem_cons.mp hx with rfl | hx
    · exact ⟨h1, h2, h3⟩
    · exact hv x hx
/-- the one row stands between the entries of the other -/
def sbB (one two : List Int) : Bool := ((two.length : Int) == (one.length : Int) - 1) && ((List.range two.length).all fun k => decide (one.getD k 0 ≥ two.getD k 0) && decide (two.getD k 0 ≥ one.getD (k + 1) 0))
def patB (row : List Int) (vs : List (List Int)) : Bool := decide (vs.getD 0 [] = row) && ((List.range (vs.length - 1)).all fun k => sbB (vs.getD k []) (vs.getD (k + 1) []))
def patV (row : List Int) : PyData → Bool
  | .tuple ds => decide (ds.length = row.length) && (ds.all rowB && patB row (ds.map rowInts))
  | _ => false
theorem getD_memL {vs : List (List Int)} {k : Nat} (h : k < vs.length) : vs.getD k [] ∈ vs := by
  rw [getDat h]
  exact List.getElem_mem h
theorem filter_not_len {α : Type} (p : α → Bool) (xs : List α) : (decide ((0 : Int) < (xs.filter fun x => !p x).length)) = !xs.all p := by
  cases h : xs.all p with
  | true =>
    have : (xs.filter fun x => !p x) = [] := by
      rw [List.filter_eq_nil_iff]
      intro x hx
      rw [List.all_eq_true.mp h x hx]
      exact Bool.false_ne_true
    rw [this]
    rfl
  | false =>
    rw [Bool.not_false, decide_eq_true_eq]
    cases e : xs.filter (fun x => !p x) with
    | nil =>
      rw [List.filter_eq_nil_iff] at e
      have : xs.all p = true := List.all_eq_true.mpr fun x hx => by simpa using e x hx
      rw [this] at h
      cases h
    | cons a b =>
      rw [List.length_cons]
      omega
theorem depth_t (xs : List PyData) : (PyData.tuple xs).depth = PyData.depthAll xs + 1 := by
  rw [PyData.depth]
theorem depth_l (xs : List PyData) : (PyData.list xs).depth = PyData.depthAll xs + 1 := by
  rw [PyData.depth]
theorem dall_le {m : Nat} : ∀ {xs : List PyData}, (∀ x ∈ xs, x.depth ≤ m) → PyData.depthAll xs ≤ m
  | [], _ => by
    rw [PyData.depthAll]
    exact Nat.zero_le _
  | x :: r, h => by
    rw [PyData.depthAll]
    exact Nat.max_le.mpr ⟨h x List.mem_cons_self, dall_le fun y hy => h y (List.mem_cons_of_mem _ hy)⟩
theorem dep_leaf_int (i : Int) : (PyData.int i).depth = 0 := by rw [PyData.depth]
theorem dep_leaf_str (x : Str) : (PyData.str x).depth = 0 := by rw [PyData.depth]
theorem dep_leaf_bool (b : Bool) : (PyData.bool b).depth = 0 := by rw [PyData.depth]
theorem dep_leaf_none : PyData.none.depth = 0 := by rw [PyData.depth]
theorem rows_bd {vs : List (List Int)} {L S B : Nat} (hv : vs.length ≤ L) (hw : ∀ r ∈ vs, r.length ≤ L ∧ ∀ x ∈ r, x.natAbs ≤ B) : bdD L S B (.tuple (vs.map fun r => PyData.tuple (r.map .int))) = true := bd_tup.mpr ⟨by rw [List.length_map]; omega, fun x hx => by
  obtain ⟨r, hr, rfl⟩ := List.mem_map.mp hx
  exact bd_ints (hw r hr).1 (hw r hr).2⟩
theorem rows_dep (vs : List (List Int)) : (PyData.tuple (vs.map fun r => PyData.tuple (r.map .int))).depth ≤ 2 := by
  rw [depth_t]
  refine Nat.succ_le_succ (dall_le fun x hx => ?_)
  obtain ⟨r, hr, rfl⟩ := List.mem_map.mp hx
  rw [depth_t, dall_ints]
  exact Nat.le_refl _
/-- a list read backwards is a new list -/
def lstRev : PyData → Option (List PyData)
  | .list xs => some xs.reverse
  | _ => none
def eRevL (ta : En → Option PyData) (E : En) : Option (List PyData) := (ta E).bind lstRev
theorem df_rev {X : Cx} {a : Expr} {ta : En → Option PyData} {k : Nat} {p1 p2 p3 pos : Pos} (ha : DS X a ta) : DF X (.Subscript a (.Slice none none (some (.UnaryOp .USub (.Constant (.int 1) k p1) p2)) p3) pos) (eRevL ta) := ⟨fun H0 G0 E σ H G d Q I ht q => by
  unfold eRevL at ht
  cases et : ta E with
  | none => rw [et] at ht; cases ht
  | some d1 =>
    rw [et] at ht
    cases d1 with
    | list ds =>
      cases ht
      refine PE.b (pe_revL (best_pe X a)) ?_
      refine ha.run H0 G0 E σ H G _ _ I et fun v H1 G1 x1 h1 => ?_
      obtain ⟨p, xs, rfl, g1, g2⟩ := h1.list x1.s
      exact ⟨p, xs, rfl, g1, fun r hr => q r _ _ G1 (x1.trans (.newO x1.s hr)) (x1.h.free hr) upd_same (x1.s.free hr) g2.reverse⟩
    | _ => cases ht⟩
variable {ta : En → Option PyData} {E : En} {xs : List PyData}
theorem q_revF : eRevL ta E = (ta E).bind lstRev := rfl
theorem q_lrv : lstRev (.list xs) = some xs.reverse := rfl
theorem ixN_in {n : Nat} {k : Int} (h0 : 0 ≤ k) (h : k < n) : ixN n k = some k.toNat := by
  unfold ixN
  rw [if_pos h0, if_pos h]
theorem ixN_neg1 {n : Nat} (h : 1 ≤ n) : ixN n (-1) = some (n - 1) := by
  unfold ixN
  rw [if_neg (by omega), if_pos (by omega)]
  congr 1
  omega
theorem setI (ns : List Int) (i : Nat) (x : Int) : (ns.map PyData.int).set i (.int x) = (ns.set i x).map .int := by
  rw [List.map_set]
theorem fall_first {ns : List Int} (h : ns.Pairwise (· ≥ ·)) {y : Int} (hy : ns.getD 0 0 ≤ y) : (ns.set 0 y).Pairwise (· ≥ ·) := by
  cases ns with
  | nil => exact h
  | cons x r =>
    rw [List.pairwise_cons] at h
    show (y :: r).Pairwise _
    rw [List.pairwise_cons]
    refine ⟨fun z hz => ?_, h.2⟩
    have := h.1 z hz
    have : x ≤ y := hy
    omega
theorem fall_last {ns : List Int} (h : ns.Pairwise (· ≥ ·)) {y : Int} (hy : y ≤ ns.getD (ns.length - 1) 0) : (ns.set (ns.length - 1) y).Pairwise (· ≥ ·) := by
  rw [List.pairwise_iff_getElem] at h ⊢
  intro i j hi hj hij
  rw [List.length_set] at hi hj
  rw [List.getElem_set, List.getElem_set, if_neg (by omega)]
  have hh := h i j hi hj hij
  split
  · rename_i e
    subst e
    rw [getDat (by omega)] at hy
    omega
  · exact hh
theorem fall_sort (l : List Int) : (sortI l).reverse.Pairwise (· ≥ ·) := by
  rw [List.pairwise_reverse]
  exact sortI_sorted _
theorem fall_plus {a b : List Int} (ha : a.Pairwise (· ≥ ·)) (hb : b.Pairwise (· ≥ ·)) (hl : b.length = a.length) : ((List.range a.length).map fun k => a.getD k 0 + b.getD k 0).Pairwise (· ≥ ·) := by
  rw [List.pairwise_iff_getElem] at ha hb ⊢
  intro i j hi hj hij
  rw [List.length_map, List.length_range] at hi hj
  have h1 := ha i j hi hj hij
  have h2 := hb i j (by omega) (by omega) hij
  rw [List.getElem_map, List.getElem_map, List.getElem_range, List.getElem_range, getDat hi, getDat hj, getDat (by omega), getDat (by omega)]
  omega
end Pd

/-! the moves from a row to a row that lies under it: plain lemmas -/
namespace Pd
open PySem PySem.Spec PyProof.Rows L2
theorem least_of {p : Nat → Bool} : ∀ {n : Nat}, (∃ k, k < n ∧ p k = true) → ∃ k, k < n ∧ p k = true ∧ ∀ i, i < k → p i = false
  | 0, ⟨k, h, _⟩ => absurd h (Nat.not_lt_zero _)
  | n + 1, ⟨k, h, hp⟩ => by
    by_cases hh : ∃ k, k < n ∧ p k = true
    · obtain ⟨j, h1, h2, h3⟩ := least_of hh
      exact ⟨j, by omega, h2, h3⟩
    · have hk : k = n := by
        by_cases e : k = n
        · exact e
        · exact absurd ⟨k, by omega, hp⟩ hh
      subst hk
      refine ⟨k, by omega, hp, fun i hi => ?_⟩
      cases e : p i with
      | false => rfl
      | true => exact absurd ⟨i, hi, e⟩ hh
theorem most_of {p : Nat → Bool} : ∀ {n : Nat}, (∃ k, k < n ∧ p k = true) → ∃ k, k < n ∧ p k = true ∧ ∀ i, k < i → i < n → p i = false
  | 0, ⟨k, h, _⟩ => absurd h (Nat.not_lt_zero _)
  | n + 1, ⟨k, h, hp⟩ => by
    cases e : p n with
    | true => exact ⟨n, by omega, e, fun i h1 h2 => by omega⟩
    | false =>
      have hk : k ≠ n := fun h => by
        rw [h, e] at hp
        cases hp
      obtain ⟨j, h1, h2, h3⟩ := most_of (n := n) ⟨k, by omega, hp⟩
      refine ⟨j, by omega, h2, fun i g1 g2 => ?_⟩
      by_cases hi : i = n
      · rw [hi, e]
      · exact h3 i g1 (by omega)
theorem filter_head {p : Nat → Bool} {k : Nat} (hp : p k = true) (hl : ∀ i, i < k → p i = false) : ∀ {n : Nat}, k < n → ∃ tl, (List.range n).filter p = k :: tl
  | 0, h => absurd h (Nat.not_lt_zero _)
  | n + 1, h => by
    rw [List.range_succ, List.filter_append]
    by_cases hk : k < n
    · obtain ⟨tl, e⟩ := filter_head hp hl hk
      exact ⟨tl ++ [n].filter p, by rw [e]; rfl⟩
    · obtain rfl : k = n := by omega
      have : (List.range k).filter p = [] := by
        rw [List.filter_eq_nil_iff]
        intro i hi
        rw [hl i (List.mem_range.mp hi)]
        exact Bool.false_ne_true
      rw [this, List.filter_cons, if_pos hp]
      exact ⟨_, rfl⟩
theorem filter_last {p : Nat → Bool} {k : Nat} (hp : p k = true) : ∀ {n : Nat}, k < n → (∀ i, k < i → i < n → p i = false) → ∃ ini, (List.range n).filter p = ini ++ [k]
  | 0, h, _ => absurd h (Nat.not_lt_zero _)
  | n + 1, h, hl => by
    rw [List.range_succ, List.filter_append]
    by_cases hk : k < n
    · obtain ⟨ini, e⟩ := filter_last hp hk fun i h1 h2 => hl i h1 (by omega)
      refine ⟨ini, ?_⟩
      rw [e, List.filter_cons, if_neg (by rw [hl n hk (by omega)]; exact Bool.false_ne_true)]
      simp
    · obtain rfl : k = n := by omega
      rw [List.filter_cons, if_pos hp]
      exact ⟨_, rfl⟩
theorem atI_cons0 {α : Type} (x : α) (xs : List α) : atI (x :: xs) 0 = some x := by
  rw [atI_some (by decide) (by rw [List.length_cons]; omega)]
  rfl
theorem atI_lst {α : Type} (xs : List α) (x : α) : atI (xs ++ [x]) (-1) = some x := by
  rw [atI_neg1 (by rw [List.length_append, List.length_singleton]; omega)]
  simp
theorem ps_succ {a : List Int} {k : Nat} (h : k < a.length) : (a.take (k + 1)).sum = (a.take k).sum + a.getD k 0 := by
  rw [List.take_succ_eq_append_getElem h, List.sum_append, getDat h]
  simp
theorem fall_le {a : List Int} (h : a.Pairwise (· ≥ ·)) {i j : Nat} (hij : i ≤ j) (hj : j < a.length) : a.getD j 0 ≤ a.getD i 0 := by
  rw [getDat hj, getDat (by omega)]
  by_cases e : i = j
  · subst e
    exact Int.le_refl _
  · exact List.pairwise_iff_getElem.mp h i j (by omega) hj (by omega)
theorem pw_step : ∀ {a : List Int}, (∀ k, k + 1 < a.length → a.getD (k + 1) 0 ≤ a.getD k 0) → a.Pairwise (· ≥ ·)
  | [], _ => .nil
  | x :: r, h => by
    have hr : r.Pairwise (· ≥ ·) := pw_step fun k hk => h (k + 1) (by rw [List.length_cons]; omega)
    rw [List.pairwise_cons]
    refine ⟨fun y hy => ?_, hr⟩
    obtain ⟨i, hi, e⟩ := List.mem_iff_getElem.mp hy
    have h0 : r.getD 0 0 ≤ x := h 0 (by rw [List.length_cons]; omega)
    have h1 := fall_le hr (Nat.zero_le i) hi
    rw [getDat hi, e] at h1
    omega
/-- the row lies over the goal -/
structure Ov (a b : List Int) : Prop where
  len : a.length = b.length
  fa : a.Pairwise (· ≥ ·)
  fb : b.Pairwise (· ≥ ·)
  pre : ∀ k, k ≤ a.length → (b.take k).sum ≤ (a.take k).sum
  tot : (a.take a.length).sum = (b.take a.length).sum
/-- one box goes from the place i to the place j -/
def moveI (a : List Int) (i j : Nat) : List Int := (List.range a.length).map fun k => a.getD k 0 - (if ((k : Int) == (i : Int)) then 1 else 0) + (if ((k : Int) == (j : Int)) then 1 else 0)
theorem moveI_length (a : List Int) (i j : Nat) : (moveI a i j).length = a.length := by
  unfold moveI
  rw [List.length_map, List.length_range]
theorem moveI_get {a : List Int} {i j k : Nat} (h : k < a.length) : (moveI a i j).getD k 0 = a.getD k 0 - (if k = i then 1 else 0) + (if k = j then 1 else 0) := by
  rw [getDat (by rw [moveI_length]; exact h)]
  unfold moveI
  rw [List.getElem_map, List.getElem_range]
  have e : ∀ i : Nat, (((k : Int) == (i : Int)) = true) = (k = i) := fun i => by
    rw [beq_iff_eq]
    exact propext ⟨fun h => by omega, fun h => by omega⟩
  simp only [e]
theorem moveI_ps {a : List Int} {i j : Nat} (hij : i < j) : ∀ k, k ≤ a.length → ((moveI a i j).take k).sum = (a.take k).sum - (if i < k then 1 else 0) + (if j < k then 1 else 0)
  | 0, _ => by simp
  | k + 1, h => by
    rw [ps_succ (by rw [moveI_length]; omega), ps_succ (by omega), moveI_ps hij k (by omega), moveI_get (by omega)]
    by_cases h1 : k = i
    · subst h1
      rw [if_pos rfl, if_neg (show ¬ k = j by omega), if_neg (show ¬ k < k by omega), if_neg (show ¬ j < k by omega), if_pos (show k < k + 1 by omega), if_neg (show ¬ j < k + 1 by omega)]
      omega
    · by_cases h2 : k = j
      · subst h2
        rw [if_neg h1, if_pos rfl, if_pos hij, if_neg (show ¬ k < k by omega), if_pos (show i < k + 1 by omega), if_pos (show k < k + 1 by omega)]
        omega
      · rw [if_neg h1, if_neg h2]
        have e1 : (i < k + 1) = (i < k) := propext ⟨fun _ => by omega, fun _ => by omega⟩
        have e2 : (j < k + 1) = (j < k) := propext ⟨fun _ => by omega, fun _ => by omega⟩
        simp only [e1, e2]
        omega
/-- how much there is to do: all the sums of beginnings -/
def msum (a : List Int) : Nat → Int
  | 0 => 0
  | k + 1 => msum a k + (a.take k).sum
theorem msum_le {a b : List Int} : ∀ {n : Nat}, (∀ k, k < n → (b.take k).sum ≤ (a.take k).sum) → msum b n ≤ msum a n
  | 0, _ => Int.le_refl _
  | n + 1, h => by
    have := msum_le (n := n) fun k hk => h k (by omega)
    have := h n (by omega)
    show msum b n + (b.take n).sum ≤ msum a n + (a.take n).sum
    omega
theorem msum_lt {a b : List Int} : ∀ {n : Nat}, (∀ k, k < n → (b.take k).sum ≤ (a.take k).sum) → (∃ k, k < n ∧ (b.take k).sum < (a.take k).sum) → msum b n < msum a n
  | 0, _, ⟨k, hk, _⟩ => absurd hk (Nat.not_lt_zero _)
  | n + 1, h, ⟨k, hk, hl⟩ => by
    show msum b n + (b.take n).sum < msum a n + (a.take n).sum
    have h0 := h n (by omega)
    by_cases e : k = n
    · subst e
      have := msum_le (n := k) fun i hi => h i (by omega)
      omega
    · have := msum_lt (n := n) (fun i hi => h i (by omega)) ⟨k, by omega, hl⟩
      omega
theorem take_ext {a b : List Int} (h : a.length = b.length) (hh : ∀ k, k < a.length → a.getD k 0 = b.getD k 0) : a = b := by
  apply List.ext_getElem h
  intro i h1 h2
  have := hh i h1
  rwa [getDat h1, getDat h2] at this
/-- the places of the next move -/
structure Nxt (a b : List Int) (f l m : Nat) : Prop where
  fl : f ≤ l
  lm : l < m
  mn : m < a.length
  f1 : a.getD f 0 > b.getD f 0
  f0 : ∀ i, i < f → ¬ a.getD i 0 > b.getD i 0
  l1 : a.getD l 0 = a.getD f 0
  l0 : ∀ i, l < i → i < a.length → ¬ a.getD i 0 = a.getD f 0
  m1 : a.getD m 0 < b.getD m 0
  m0 : ∀ i, f ≤ i → i < m → ¬ a.getD i 0 < b.getD i 0
theorem nxt_of {a b : List Int} (O : Ov a b) (hne : a ≠ b) : ∃ f l m, Nxt a b f l m := by
  have hlen := O.len
  have h0 : ∃ k, k < a.length ∧ decide (a.getD k 0 > b.getD k 0) = true := by
    refine Classical.byContradiction fun hc => hne (take_ext O.len fun k hk => ?_)
    have le : ∀ k, k < a.length → a.getD k 0 ≤ b.getD k 0 := fun k hk => by
      have : ¬ a.getD k 0 > b.getD k 0 := fun h => hc ⟨k, hk, decide_eq_true h⟩
      omega
    have dk : ∀ k, k ≤ a.length → (a.take k).sum ≤ (b.take k).sum := fun k => by
      induction k with
      | zero => intro _; simp
      | succ k ih =>
        intro h
        have := ih (by omega)
        have := le k (by omega)
        rw [ps_succ (by omega), ps_succ (by have := O.len; omega)]
        omega
    have p1 := O.pre (k + 1) (by omega)
    have d1 := dk (k + 1) (by omega)
    have p0 := O.pre k (by omega)
    have d0 := dk k (by omega)
    rw [ps_succ (by omega), ps_succ (by have := O.len; omega)] at p1 d1
    omega
  obtain ⟨f, hf, hf1, hf0⟩ := least_of h0
  have hf1 := of_decide_eq_true hf1
  have hf0' : ∀ i, i < f → ¬ a.getD i 0 > b.getD i 0 := fun i hi => of_decide_eq_false (hf0 i hi)
  have hm : ∃ k, k < a.length ∧ (decide (f ≤ k) && decide (a.getD k 0 < b.getD k 0)) = true := by
    refine Classical.byContradiction fun hc => ?_
    have ge : ∀ k, f ≤ k → k < a.length → b.getD k 0 ≤ a.getD k 0 := fun k h1 h2 => by
      have : ¬ a.getD k 0 < b.getD k 0 := fun h => hc ⟨k, h2, by rw [decide_eq_true h1, decide_eq_true h]; rfl⟩
      omega
    have dk : ∀ k, f < k → k ≤ a.length → (b.take k).sum < (a.take k).sum := fun k => by
      induction k with
      | zero => intro h; omega
      | succ k ih =>
        intro h1 h2
        rw [ps_succ (by omega), ps_succ (by have := O.len; omega)]
        by_cases e : k = f
        · subst e
          have := O.pre k (by omega)
          omega
        · have := ih (by omega) (by omega)
          have := ge k (by omega) (by omega)
          omega
    have := dk a.length hf (Nat.le_refl _)
    have := O.tot
    omega
  obtain ⟨m, hmn, hm1, hm0⟩ := least_of hm
  rw [Bool.and_eq_true, decide_eq_true_eq, decide_eq_true_eq] at hm1
  have hm0' : ∀ i, f ≤ i → i < m → ¬ a.getD i 0 < b.getD i 0 := fun i h1 h2 h => by
    have := hm0 i h2
    rw [decide_eq_true h1, decide_eq_true h] at this
    cases this
  obtain ⟨l, hl, hl1, hl0⟩ := most_of (p := fun k => decide (a.getD k 0 = a.getD f 0)) (n := a.length) ⟨f, hf, decide_eq_true rfl⟩
  have hl1 := of_decide_eq_true hl1
  have hl0' : ∀ i, l < i → i < a.length → ¬ a.getD i 0 = a.getD f 0 := fun i h1 h2 => of_decide_eq_false (hl0 i h1 h2)
  have hfl : f ≤ l := by
    by_cases h : f ≤ l
    · exact h
    · exact absurd rfl (hl0' f (by omega) hf)
  have hlm : l < m := by
    by_cases h : l < m
    · exact h
    · have a1 := fall_le O.fa (show m ≤ l by omega) hl
      have a2 := fall_le O.fb hm1.1 (by have := O.len; omega)
      omega
  exact ⟨f, l, m, hfl, hlm, hmn, hf1, hf0', hl1, hl0', hm1.2, hm0'⟩
theorem nxt_ov {a b : List Int} (O : Ov a b) {f l m : Nat} (N : Nxt a b f l m) : Ov (moveI a l m) b ∧ msum (moveI a l m) (a.length + 1) < msum a (a.length + 1) := by
  have hlen := O.len
  have hps := fun k hk => moveI_ps (a := a) N.lm k hk
  have hmn := N.mn
  have hlm := N.lm
  have hfl := N.fl
  have hf1 := N.f1
  have dk : ∀ k, f < k → k ≤ m → (b.take k).sum < (a.take k).sum := fun k => by
    induction k with
    | zero => intro h; omega
    | succ k ih =>
      intro h1 h2
      rw [ps_succ (by omega), ps_succ (by omega)]
      by_cases e : k = f
      · subst e
        have := O.pre k (by omega)
        omega
      · have := ih (by omega) (by omega)
        have := N.m0 k (by omega) (by omega)
        omega
  refine ⟨⟨by rw [moveI_length, hlen], pw_step fun k hk => ?_, O.fb, fun k hk => ?_, ?_⟩, msum_lt (fun k hk => ?_) ⟨m, by omega, ?_⟩⟩
  · rw [moveI_length] at hk
    rw [moveI_get hk, moveI_get (by omega)]
    have ak := fall_le O.fa (show k ≤ k + 1 by omega) hk
    have l1 := N.l1
    have m1 := N.m1
    have bm := fall_le O.fb (show f ≤ m by omega) (by omega)
    by_cases c1 : k = l
    · subst c1
      rw [if_pos rfl, if_neg (show ¬ k = m by omega), if_neg (show ¬ k + 1 = k by omega)]
      by_cases c2 : k + 1 = m
      · rw [if_pos c2]
        rw [c2] at ak ⊢
        omega
      · rw [if_neg c2]
        have := N.l0 (k + 1) (by omega) hk
        omega
    · rw [if_neg c1]
      by_cases c2 : k + 1 = l
      · rw [if_pos c2, if_neg (show ¬ k + 1 = m by omega), if_neg (show ¬ k = m by omega)]
        omega
      · rw [if_neg c2]
        by_cases c3 : k = m
        · rw [if_pos c3, if_neg (show ¬ k + 1 = m by omega)]
          omega
        · rw [if_neg c3]
          by_cases c4 : k + 1 = m
          · rw [if_pos c4]
            have g1 := N.m0 k (by omega) (by omega)
            have g2 := fall_le O.fb (show k ≤ m by omega) (by omega)
            rw [c4] at ak ⊢
            omega
          · rw [if_neg c4]
            omega
  · rw [moveI_length] at hk
    rw [hps k hk]
    have := O.pre k hk
    by_cases c1 : l < k
    · rw [if_pos c1]
      by_cases c2 : m < k
      · rw [if_pos c2]
        omega
      · rw [if_neg c2]
        have := dk k (by omega) (by omega)
        omega
    · rw [if_neg c1, if_neg (show ¬ m < k by omega)]
      omega
  · rw [moveI_length, hps _ (Nat.le_refl _), if_pos (show l < a.length by omega), if_pos (show m < a.length by omega)]
    have := O.tot
    omega
  · rw [hps k (by omega)]
    by_cases c1 : l < k
    · rw [if_pos c1]
      by_cases c2 : m < k
      · rw [if_pos c2]
        omega
      · rw [if_neg c2]
        omega
    · rw [if_neg c1, if_neg (show ¬ m < k by omega)]
      omega
  · rw [hps m (by omega), if_pos hlm, if_neg (show ¬ m < m by omega)]
    omega
/-- a loop that ends at the first item that does not pass, with that item's word -/
theorem forD_ex {body : PyData → En → Option Ou} {ok : PyData → Bool} {r : PyData → PyData} (P : En → Prop) : ∀ (ds : List PyData) (E : En), P E →
    (∀ d ∈ ds, ∀ E, P E → (ok d = true ∧ ∃ E', body d E = some (.nx E') ∧ P E') ∨ (ok d = false ∧ body d E = some (.rt (r d)))) →
    (ds.all ok = true ∧ ∃ E', forD body ds E = some (.nx E') ∧ P E') ∨ (∃ d ∈ ds, ok d = false ∧ forD body ds E = some (.rt (r d)))
  | [], E, p, _ => .inl ⟨rfl, E, rfl, p⟩
  | d :: l, E, p, h => by
    rcases h d List.mem_cons_self E p with ⟨h1, E', e, p'⟩ | ⟨h1, e⟩
    · rcases forD_ex P l E' p' (fun x hx => h x (List.mem_cons_of_mem _ hx)) with ⟨h2, E2, e2, p2⟩ | ⟨y, hy, h2, e2⟩
      · refine .inl ⟨by rw [List.all_cons, h1, h2]; rfl, E2, ?_, p2⟩
        show (body d E).bind _ = _
        rw [e]
        exact e2
      · refine .inr ⟨y, List.mem_cons_of_mem _ hy, h2, ?_⟩
        show (body d E).bind _ = _
        rw [e]
        exact e2
    · refine .inr ⟨d, List.mem_cons_self, h1, ?_⟩
      show (body d E).bind _ = _
      rw [e]
      rfl
/-- the moves so far -/
structure Pth (a b : List Int) (vs : List (List Int)) : Prop where
  ne : 1 ≤ vs.length
  fst : vs.getD 0 [] = a
  ov : ∀ r ∈ vs, Ov r b
  step : ∀ k, k + 1 < vs.length → ∃ l m, l < m ∧ m < b.length ∧ vs.getD (k + 1) [] = moveI (vs.getD k []) l m
theorem getD_appL {vs : List (List Int)} {new : List Int} {k : Nat} (h : k < vs.length) : (vs ++ [new]).getD k [] = vs.getD k [] := by
  rw [getDat (by rw [List.length_append]; omega), getDat h, List.getElem_append_left h]
theorem getD_appR {vs : List (List Int)} {new : List Int} {k : Nat} (h : k = vs.length) : (vs ++ [new]).getD k [] = new := by
  subst h
  rw [getDat (by rw [List.length_append, List.length_singleton]; omega), List.getElem_append_right (Nat.le_refl _)]
  simp
theorem Pth.next {a b : List Int} {vs : List (List Int)} (P : Pth a b vs) {f l m : Nat} (N : Nxt (vs.getD (vs.length - 1) []) b f l m) : Pth a b (vs ++ [moveI (vs.getD (vs.length - 1) []) l m]) := by
  have hn := P.ne
  have hO := P.ov _ (getD_memL (vs := vs) (k := vs.length - 1) (by omega))
  refine ⟨by rw [List.length_append]; omega, by rw [getD_appL (by omega), P.fst], fun r hr => ?_, fun k hk => ?_⟩
  · rcases List.mem_append.mp hr with hr | hr
    · exact P.ov r hr
    · rw [List.mem_singleton.mp hr]
      exact (nxt_ov hO N).1
  · rw [List.length_append, List.length_singleton] at hk
    by_cases h : k + 1 < vs.length
    · rw [getD_appL h, getD_appL (by omega)]
      exact P.step k h
    · have e : k = vs.length - 1 := by omega
      refine ⟨l, m, N.lm, by rw [← hO.len]; exact N.mn, ?_⟩
      rw [getD_appR (by omega), getD_appL (by omega), e]
theorem Ov.msum_le {a b : List Int} (O : Ov a b) : msum b (a.length + 1) ≤ msum a (a.length + 1) := Pd.msum_le fun k hk => O.pre k (by omega)
theorem take_bd {a : List Int} {B : Int} (hB : 0 ≤ B) (h : ∀ x ∈ a, -B ≤ x ∧ x ≤ B) : ∀ k, k ≤ a.length → -(B * (k : Nat)) ≤ (a.take k).sum ∧ (a.take k).sum ≤ B * (k : Nat)
  | 0, _ => by simp
  | k + 1, hk => by
    have ih := take_bd hB h k (by omega)
    have hx := h _ (getD_mem' (ns := a) (i := k) (by omega))
    rw [ps_succ (by omega)]
    have e : B * ((k + 1 : Nat) : Int) = B * (k : Nat) + B := by
      rw [Int.natCast_add, Int.mul_add]
      simp
    rw [e]
    omega
theorem msum_bd {a : List Int} (hl : a.length ≤ 6) (h : ∀ x ∈ a, -3000 ≤ x ∧ x ≤ 3000) : ∀ k, k ≤ a.length + 1 → -(18000 * (k : Nat)) ≤ msum a k ∧ msum a k ≤ 18000 * (k : Nat)
  | 0, _ => by simp [msum]
  | k + 1, hk => by
    have ih := msum_bd hl h k (by omega)
    have := take_bd (B := 3000) (by decide) h k (by omega)
    show _ ≤ msum a k + (a.take k).sum ∧ msum a k + (a.take k).sum ≤ _
    omega
theorem sum_all (a : List Int) : (a.take a.length).sum = a.sum := by rw [List.take_length]
def overB (a b : List Int) : Bool := (a.sum == b.sum) && ((List.range (a.length - 1)).all fun j => decide ((a.take (j + 1)).sum ≥ (b.take (j + 1)).sum))
theorem cut_to {α : Type} (xs : List α) (k : Nat) : Pd.cutD xs none (some (k : Int)) = xs.take k := by
  unfold Pd.cutD
  have a1 : HT.sIx xs.length 0 none = 0 := rfl
  have b1 : HT.sIx xs.length xs.length (some (k : Int)) = min k xs.length := HT.sIx_nat _ _ _
  rw [a1, b1, List.drop_zero, Nat.sub_zero]
  by_cases h : k ≤ xs.length
  · rw [Nat.min_eq_left h]
  · rw [Nat.min_eq_right (by omega), List.take_length, List.take_of_length_le (by omega)]
theorem filter_one {l : Nat} : ∀ {n : Nat}, l < n → (List.range n).filter (fun j => decide (j = l)) = [l]
  | 0, h => absurd h (Nat.not_lt_zero _)
  | n + 1, h => by
    rw [List.range_succ, List.filter_append]
    by_cases e : l < n
    · rw [filter_one e, List.filter_cons, if_neg (by rw [decide_eq_false (by omega)]; exact Bool.false_ne_true)]
      rfl
    · obtain rfl : l = n := by omega
      have : (List.range l).filter (fun j => decide (j = l)) = [] := by
        rw [List.filter_eq_nil_iff]
        intro i hi
        have := List.mem_range.mp hi
        rw [decide_eq_false (by omega)]
        exact Bool.false_ne_true
      rw [this, List.filter_cons, if_pos (decide_eq_true rfl)]
      rfl
theorem filter_two {l m : Nat} (hlm : l < m) : ∀ {n : Nat}, m < n → (List.range n).filter (fun j => decide (j = l) || decide (j = m)) = [l, m]
  | 0, h => absurd h (Nat.not_lt_zero _)
  | n + 1, h => by
    rw [List.range_succ, List.filter_append]
    by_cases e : m < n
    · rw [filter_two hlm e, List.filter_cons, if_neg (by rw [decide_eq_false (show ¬ n = l by omega), decide_eq_false (show ¬ n = m by omega)]; exact Bool.false_ne_true)]
      rfl
    · obtain rfl : m = n := by omega
      have : (List.range m).filter (fun j => decide (j = l) || decide (j = m)) = [l] := by
        rw [← filter_one hlm]
        refine List.filter_congr fun j hj => ?_
        have := List.mem_range.mp hj
        rw [decide_eq_false (show ¬ j = m by omega), Bool.or_false]
      rw [this, List.filter_cons, if_pos (by rw [decide_eq_true (rfl : m = m), Bool.or_true])]
      rfl
theorem dEq_str {x y : Str} (hx : SeqAt.shaped (.str x) = true) (hy : SeqAt.shaped (.str y) = true) : dEq (.str x) (.str y) = some (.bool (x == y)) := by
  unfold dEq
  rw [hx, hy]
  show some (PyData.bool (PyData.eqv _ _)) = _
  unfold PyData.eqv
  rfl
theorem dNe_bool (x y : Bool) : dNe (.bool x) (.bool y) = some (.bool (!(x == y))) := by
  unfold dNe
  show some (PyData.bool (!PyData.eqv _ _)) = _
  unfold PyData.eqv
  rfl
theorem sh_moves : SeqAt.shaped (.str ("moves" : Str)) = true := by decide +kernel
theorem sh_less : SeqAt.shaped (.str ("less" : Str)) = true := by decide +kernel
theorem sh_totals : SeqAt.shaped (.str ("totals" : Str)) = true := by decide +kernel
theorem s_lm : (("less" : Str) == ("moves" : Str)) = false := by decide +kernel
theorem s_tm : (("totals" : Str) == ("moves" : Str)) = false := by decide +kernel
theorem s_mm : (("moves" : Str) == ("moves" : Str)) = true := by decide +kernel
theorem s_ll : (("less" : Str) == ("less" : Str)) = true := by decide +kernel
theorem s_tt : (("totals" : Str) == ("totals" : Str)) = true := by decide +kernel
/-- a tuple of n items, the first of them this word -/
def namedB (w : Str) (n : Int) : PyData → Bool
  | .tuple (.str x :: r) => (((r.length + 1 : Nat) : Int) == n) && (x == w)
  | _ => false
def lenB (n : Nat) : PyData → Bool
  | .tuple ds => ((ds.length : Int) == (n : Int))
  | _ => false
/-- what changes from the one row to the other -/
def chgL (one two : List Int) : List Int := ((List.range one.length).filter fun j => !(two.getD j 0 == one.getD j 0)).map fun j => two.getD j 0 - one.getD j 0
def mvB (one two : List Int) : Bool := decide (chgL one two = [-1, 1])
def pathB (a b : List Int) (vs : List (List Int)) : Bool := decide (vs.getD 0 [] = a) && (decide (vs.getD (vs.length - 1) [] = b) && ((List.range (vs.length - 1)).all fun k => mvB (vs.getD k []) (vs.getD (k + 1) [])))
def movesB (a b : List Int) : PyData → Bool
  | .tuple ds => decide (1 ≤ ds.length) && (ds.all (fun d => rowB d && lenB a.length d) && pathB a b (ds.map rowInts))
  | _ => false
theorem movesB_t (a b : List Int) (ds : List PyData) : movesB a b (.tuple ds) = (decide (1 ≤ ds.length) && (ds.all (fun d => rowB d && lenB a.length d) && pathB a b (ds.map rowInts))) := rfl
theorem lenRows {n : Nat} : ∀ {ds : List PyData}, ds.all (fun d => rowB d && lenB n d) = true → ∃ vs : List (List Int), ds = vs.map (fun ns => PyData.tuple (ns.map .int)) ∧ ∀ ns ∈ vs, ns.length = n ∧ ns.length ≤ 6
  | [], _ => ⟨[], rfl, fun _ h => by cases h⟩
  | d :: l, h => by
    rw [List.all_cons, Bool.and_eq_true, Bool.and_eq_true] at h
    obtain ⟨vs, rfl, hv⟩ := lenRows h.2
    obtain ⟨ns, rfl, h1, h2, h3⟩ := rowB_true h.1.1
    refine ⟨ns :: vs, rfl, fun x hx => ?_⟩
    rcases List.mem_cons.mp hx with rfl | hx
    · have h4 : (((x.map PyData.int).length : Int) == (n : Int)) = true := h.1.2
      rw [List.length_map, beq_iff_eq] at h4
      exact ⟨by omega, h2⟩
    · exact hv x hx
def lessB (a b : List Int) : PyData → Bool
  | .int k => (decide (1 ≤ k) && decide (k ≤ (a.length : Int))) && decide ((a.take k.toNat).sum < (b.take k.toNat).sum)
  | _ => false
def item1 : PyData → PyData
  | .tuple (_ :: y :: _) => y
  | _ => .none
/-- what a judge of level papers answers -/
def lvB (a b : List Int) (d : PyData) : Bool :=
  if namedB ("moves" : Str) 2 d then movesB a b (item1 d) else if namedB ("less" : Str) 2 d then lessB a b (item1 d) else namedB ("totals" : Str) 1 d && !(a.sum == b.sum)
theorem named_two {w : Str} {d : PyData} (h : namedB w 2 d = true) : ∃ x y, d = .tuple [.str x, y] := by
  cases d with
  | tuple ds =>
    cases ds with
    | nil => cases h
    | cons u r =>
      cases u with
      | str x =>
        have h1 : ((((r.length + 1 : Nat) : Int) == 2) && (x == w)) = true := h
        rw [Bool.and_eq_true, beq_iff_eq] at h1
        match r, h1 with
        | [], h1 => exact absurd h1.1 (by decide)
        | [y], _ => exact ⟨x, y, rfl⟩
        | _ :: _ :: r, h1 =>
          rw [List.length_cons, List.length_cons] at h1
          omega
      | _ => cases h
  | _ => cases h
end Pd

namespace Lw
open PySem PySem.Spec PyProof.Rows L2 Pd

def topS (i : Nat) : Stmt := PySem.Challenge.pw_hornhive_k08_whole_levels_turn_add_and_g.main.body.getD i (.Pass ⟨0, 0, 0, 0⟩)

noncomputable section
variable {P : Program} {w : World} {K : PySem.W.Frag} {mg : Str → Option Value} {base : Heap}

/-! is_whole -/
abbrev s_is_whole : Stmt := topS 1
abbrev N_is_whole : List Str := ["value"]
theorem sc_is_whole : FnScope N_is_whole ["value"] (defScope s_is_whole) := ⟨rfl, rfl, rfl, by decide +kernel, rfl, by decide +kernel, by decide +kernel⟩
def T_is_whole : En → Option Ou :=
  (sRet (eAnd (eIsi "int" (eV 0)) (eNot (eIsi "bool" (eV 0)))))

def F_is_whole : List PyData → Option PyData := runD N_is_whole.length T_is_whole
theorem fix_is_whole : ∀ ds d, ds.length = 1 → F_is_whole ds = some d → runD N_is_whole.length T_is_whole ds = some d := fun _ _ _ h => h

theorem is_whole_e {d : PyData} (h : ndD d = true) : F_is_whole [d] = some (.bool (wholeB d)) := by
  unfold F_is_whole T_is_whole
  cases d with
  | dict kvs => cases h
  | _ =>
    simp -implicitDefEqProofs only [z_bool_none, z_bool_bool, z_bool_int, z_bool_str, z_bool_list, z_bool_tuple, z_int_none, z_int_bool, z_int_int, z_int_str, z_int_list, z_int_tuple, z_tuple_none, z_tuple_bool, z_tuple_int, z_tuple_str, z_tuple_list, z_tuple_tuple, z_list_none, z_list_bool, z_list_int, z_list_str, z_list_list, z_list_tuple, z_str_none, z_str_bool, z_str_int, z_str_str, z_str_list, z_str_tuple, z_dict_none, z_dict_bool, z_dict_int, z_dict_str, z_dict_list, z_dict_tuple, q_seq, q_thn, q_thr, q_thb, q_thc, q_thro, q_if, q_ift, q_iff, q_nil, q_ret, q_retN, q_set, q_setO, q_setC, q_setW, q_frz, q_frzo, q_frzc, q_frzu, q_frzt, q_frzt', q_frzr, q_V, q_C, q_ow, q_Vc, q_Vo, q_Cc, q_Oo, q_K, q_N, q_aC, q_aC1, q_tup, q_lst, q_L, q_b, q_bb, q_kB, q_kNot, q_kAnd, q_kOr, q_kit, q_kif, q_kot, q_kof, q_eAnd, q_eOr, q_eit, q_eif, q_eot, q_eof, q_eNot, q_notO, q_eIf, q_eIt, q_eIff, q_bin, q_bin1, q_ch, q_ch1, q_ch2, q_ch3t, q_ch3f, q_addI, q_addS, q_addT, q_addL, q_sub, q_mul, q_mulT, q_imul, q_iadd, q_iaddS, q_fdiv, q_mod, q_pow, q_lsh, q_rsh, q_band, q_lt, q_le, q_gt, q_ge, q_eqI, q_neI, q_isB, q_isN, q_isnB, q_isnN, q_neg, q_un, q_revL, q_revT, q_ixL, q_ixT, q_iOf, q_oN, q_oS, q_sl, q_sl1, q_sl2, q_slT, q_slL, q_call, q_cb, q_cf, q_lenL, q_lenT, q_intI, q_intB, q_abs, q_tupL, q_tupT, q_listL, q_listT, q_sort, q_all, q_max2, q_min2, q_sumL, q_sumT, q_isi, q_isO, q_iseq, q_itL, q_itT, q_revF, q_lrv, q_r1, q_r2, q_r2', q_gN, q_gT, q_gTL, q_sAn, q_sAc, q_app, q_app1, q_app2, q_put, q_put1, q_put2, q_put3, q_aug, q_unp, q_unp1, q_nxO, q_par, q_parO, q_run, q_outr, q_outn, start0, Option.bind_some, Option.bind_none, Option.map_some, Option.map_none, List.map_cons, List.map_nil, List.length_cons, List.length_nil, List.replicate_succ, List.replicate_zero, List.cons_append, List.nil_append, List.append_nil, List.getElem?_cons_zero, List.getElem?_cons_succ, List.getElem?_nil, List.set_cons_zero, List.set_cons_succ, chkL_of, chkT_of, Nat.zero_le, Nat.reduceLeDiff, Nat.reduceSub, Nat.reduceAdd, Nat.sub_self, Bool.not_false, Bool.not_true, bOf]
    try rfl

theorem ok_is_whole {f : Addr} {fd : FuncData} {k : Nat} (B : Bt mg) (D : Fun K "is_whole" "is_whole" s_is_whole f fd) :
    FnOk P w K mg base CX0 (k + 1) f fd ["value"] (spD K ["value"].length (runD N_is_whole.length T_is_whole)) := by
  have nd := sc_is_whole.nd
  refine fnD D sc_is_whole fun cdv A outer s H E hr => ?_
  exact (dss_one (ds_ret (de_and (de_isi isT_int B.isinstance B.int (dv 0)).s (de_oneE (de_not (de_isi isT_bool B.isinstance B.bool (dv 0)).s)))))

/-! is_numbers -/
abbrev s_is_numbers : Stmt := topS 2
abbrev N_is_numbers : List Str := ["value", "item"]
theorem sc_is_numbers : FnScope N_is_numbers ["value"] (defScope s_is_numbers) := ⟨rfl, rfl, rfl, by decide +kernel, rfl, by decide +kernel, by decide +kernel⟩
def Q_is_numbers_1 : En → Option (List PyData) := eLc (iSeq (eC 0)) [1] (gN 1) (fun _ => some true) (eCall F_is_whole (aC (eC 1) aN))
def T_is_numbers : En → Option Ou :=
  (sRet (eAnd (eIsi "tuple" (eV 0)) (eCb dAll (aC (eL Q_is_numbers_1) aN))))

def F_is_numbers : List PyData → Option PyData := runD N_is_numbers.length T_is_numbers
theorem fix_is_numbers : ∀ ds d, ds.length = 1 → F_is_numbers ds = some d → runD N_is_numbers.length T_is_numbers ds = some d := fun _ _ _ h => h

theorem is_numbers_t {ds : List PyData} (h : ndD (.tuple ds) = true) : F_is_numbers [.tuple ds] = some (.bool (ds.all wholeB)) := by
  obtain ⟨h1, h2⟩ := ndD_tup.mp h
  have q : Q_is_numbers_1 [.cl (.tuple ds), .un] = some ((ds.map wholeB).map .bool) := by
    rw [List.map_map]
    unfold Q_is_numbers_1 eLc
    simp -implicitDefEqProofs only [z_bool_none, z_bool_bool, z_bool_int, z_bool_str, z_bool_list, z_bool_tuple, z_int_none, z_int_bool, z_int_int, z_int_str, z_int_list, z_int_tuple, z_tuple_none, z_tuple_bool, z_tuple_int, z_tuple_str, z_tuple_list, z_tuple_tuple, z_list_none, z_list_bool, z_list_int, z_list_str, z_list_list, z_list_tuple, z_str_none, z_str_bool, z_str_int, z_str_str, z_str_list, z_str_tuple, z_dict_none, z_dict_bool, z_dict_int, z_dict_str, z_dict_list, z_dict_tuple, q_seq, q_thn, q_thr, q_thb, q_thc, q_thro, q_if, q_ift, q_iff, q_nil, q_ret, q_retN, q_set, q_setO, q_setC, q_setW, q_frz, q_frzo, q_frzc, q_frzu, q_frzt, q_frzt', q_frzr, q_V, q_C, q_ow, q_Vc, q_Vo, q_Cc, q_Oo, q_K, q_N, q_aC, q_aC1, q_tup, q_lst, q_L, q_b, q_bb, q_kB, q_kNot, q_kAnd, q_kOr, q_kit, q_kif, q_kot, q_kof, q_eAnd, q_eOr, q_eit, q_eif, q_eot, q_eof, q_eNot, q_notO, q_eIf, q_eIt, q_eIff, q_bin, q_bin1, q_ch, q_ch1, q_ch2, q_ch3t, q_ch3f, q_addI, q_addS, q_addT, q_addL, q_sub, q_mul, q_mulT, q_imul, q_iadd, q_iaddS, q_fdiv, q_mod, q_pow, q_lsh, q_rsh, q_band, q_lt, q_le, q_gt, q_ge, q_eqI, q_neI, q_isB, q_isN, q_isnB, q_isnN, q_neg, q_un, q_revL, q_revT, q_ixL, q_ixT, q_iOf, q_oN, q_oS, q_sl, q_sl1, q_sl2, q_slT, q_slL, q_call, q_cb, q_cf, q_lenL, q_lenT, q_intI, q_intB, q_abs, q_tupL, q_tupT, q_listL, q_listT, q_sort, q_all, q_max2, q_min2, q_sumL, q_sumT, q_isi, q_isO, q_iseq, q_itL, q_itT, q_revF, q_lrv, q_r1, q_r2, q_r2', q_gN, q_gT, q_gTL, q_sAn, q_sAc, q_app, q_app1, q_app2, q_put, q_put1, q_put2, q_put3, q_aug, q_unp, q_unp1, q_nxO, q_par, q_parO, q_run, q_outr, q_outn, start0, Option.bind_some, Option.bind_none, Option.map_some, Option.map_none, List.map_cons, List.map_nil, List.length_cons, List.length_nil, List.replicate_succ, List.replicate_zero, List.cons_append, List.nil_append, List.append_nil, List.getElem?_cons_zero, List.getElem?_cons_succ, List.getElem?_nil, List.set_cons_zero, List.set_cons_succ, chkL_of, chkT_of, Nat.zero_le, Nat.reduceLeDiff, Nat.reduceSub, Nat.reduceAdd, Nat.sub_self, Bool.not_false, Bool.not_true]
    rw [chkL_of (by omega), Option.bind_some]
    have e : ∀ f, lcD f ds = lcD f (ds.map id) := fun f => by rw [List.map_id]
    rw [e]
    refine lcD_map ds fun k hk => ?_
    unfold lcT
    simp only [wipeE, List.set_cons_zero, List.set_cons_succ]
    simp -implicitDefEqProofs only [z_bool_none, z_bool_bool, z_bool_int, z_bool_str, z_bool_list, z_bool_tuple, z_int_none, z_int_bool, z_int_int, z_int_str, z_int_list, z_int_tuple, z_tuple_none, z_tuple_bool, z_tuple_int, z_tuple_str, z_tuple_list, z_tuple_tuple, z_list_none, z_list_bool, z_list_int, z_list_str, z_list_list, z_list_tuple, z_str_none, z_str_bool, z_str_int, z_str_str, z_str_list, z_str_tuple, z_dict_none, z_dict_bool, z_dict_int, z_dict_str, z_dict_list, z_dict_tuple, q_seq, q_thn, q_thr, q_thb, q_thc, q_thro, q_if, q_ift, q_iff, q_nil, q_ret, q_retN, q_set, q_setO, q_setC, q_setW, q_frz, q_frzo, q_frzc, q_frzu, q_frzt, q_frzt', q_frzr, q_V, q_C, q_ow, q_Vc, q_Vo, q_Cc, q_Oo, q_K, q_N, q_aC, q_aC1, q_tup, q_lst, q_L, q_b, q_bb, q_kB, q_kNot, q_kAnd, q_kOr, q_kit, q_kif, q_kot, q_kof, q_eAnd, q_eOr, q_eit, q_eif, q_eot, q_eof, q_eNot, q_notO, q_eIf, q_eIt, q_eIff, q_bin, q_bin1, q_ch, q_ch1, q_ch2, q_ch3t, q_ch3f, q_addI, q_addS, q_addT, q_addL, q_sub, q_mul, q_mulT, q_imul, q_iadd, q_iaddS, q_fdiv, q_mod, q_pow, q_lsh, q_rsh, q_band, q_lt, q_le, q_gt, q_ge, q_eqI, q_neI, q_isB, q_isN, q_isnB, q_isnN, q_neg, q_un, q_revL, q_revT, q_ixL, q_ixT, q_iOf, q_oN, q_oS, q_sl, q_sl1, q_sl2, q_slT, q_slL, q_call, q_cb, q_cf, q_lenL, q_lenT, q_intI, q_intB, q_abs, q_tupL, q_tupT, q_listL, q_listT, q_sort, q_all, q_max2, q_min2, q_sumL, q_sumT, q_isi, q_isO, q_iseq, q_itL, q_itT, q_revF, q_lrv, q_r1, q_r2, q_r2', q_gN, q_gT, q_gTL, q_sAn, q_sAc, q_app, q_app1, q_app2, q_put, q_put1, q_put2, q_put3, q_aug, q_unp, q_unp1, q_nxO, q_par, q_parO, q_run, q_outr, q_outn, start0, Option.bind_some, Option.bind_none, Option.map_some, Option.map_none, List.map_cons, List.map_nil, List.length_cons, List.length_nil, List.replicate_succ, List.replicate_zero, List.cons_append, List.nil_append, List.append_nil, List.getElem?_cons_zero, List.getElem?_cons_succ, List.getElem?_nil, List.set_cons_zero, List.set_cons_succ, chkL_of, chkT_of, Nat.zero_le, Nat.reduceLeDiff, Nat.reduceSub, Nat.reduceAdd, Nat.sub_self, Bool.not_false, Bool.not_true, id, is_whole_e (h2 k hk)]
    rfl
  unfold F_is_numbers T_is_numbers
  simp -implicitDefEqProofs only [z_bool_none, z_bool_bool, z_bool_int, z_bool_str, z_bool_list, z_bool_tuple, z_int_none, z_int_bool, z_int_int, z_int_str, z_int_list, z_int_tuple, z_tuple_none, z_tuple_bool, z_tuple_int, z_tuple_str, z_tuple_list, z_tuple_tuple, z_list_none, z_list_bool, z_list_int, z_list_str, z_list_list, z_list_tuple, z_str_none, z_str_bool, z_str_int, z_str_str, z_str_list, z_str_tuple, z_dict_none, z_dict_bool, z_dict_int, z_dict_str, z_dict_list, z_dict_tuple, q_seq, q_thn, q_thr, q_thb, q_thc, q_thro, q_if, q_ift, q_iff, q_nil, q_ret, q_retN, q_set, q_setO, q_setC, q_setW, q_frz, q_frzo, q_frzc, q_frzu, q_frzt, q_frzt', q_frzr, q_V, q_C, q_ow, q_Vc, q_Vo, q_Cc, q_Oo, q_K, q_N, q_aC, q_aC1, q_tup, q_lst, q_L, q_b, q_bb, q_kB, q_kNot, q_kAnd, q_kOr, q_kit, q_kif, q_kot, q_kof, q_eAnd, q_eOr, q_eit, q_eif, q_eot, q_eof, q_eNot, q_notO, q_eIf, q_eIt, q_eIff, q_bin, q_bin1, q_ch, q_ch1, q_ch2, q_ch3t, q_ch3f, q_addI, q_addS, q_addT, q_addL, q_sub, q_mul, q_mulT, q_imul, q_iadd, q_iaddS, q_fdiv, q_mod, q_pow, q_lsh, q_rsh, q_band, q_lt, q_le, q_gt, q_ge, q_eqI, q_neI, q_isB, q_isN, q_isnB, q_isnN, q_neg, q_un, q_revL, q_revT, q_ixL, q_ixT, q_iOf, q_oN, q_oS, q_sl, q_sl1, q_sl2, q_slT, q_slL, q_call, q_cb, q_cf, q_lenL, q_lenT, q_intI, q_intB, q_abs, q_tupL, q_tupT, q_listL, q_listT, q_sort, q_all, q_max2, q_min2, q_sumL, q_sumT, q_isi, q_isO, q_iseq, q_itL, q_itT, q_revF, q_lrv, q_r1, q_r2, q_r2', q_gN, q_gT, q_gTL, q_sAn, q_sAc, q_app, q_app1, q_app2, q_put, q_put1, q_put2, q_put3, q_aug, q_unp, q_unp1, q_nxO, q_par, q_parO, q_run, q_outr, q_outn, start0, Option.bind_some, Option.bind_none, Option.map_some, Option.map_none, List.map_cons, List.map_nil, List.length_cons, List.length_nil, List.replicate_succ, List.replicate_zero, List.cons_append, List.nil_append, List.append_nil, List.getElem?_cons_zero, List.getElem?_cons_succ, List.getElem?_nil, List.set_cons_zero, List.set_cons_succ, chkL_of, chkT_of, Nat.zero_le, Nat.reduceLeDiff, Nat.reduceSub, Nat.reduceAdd, Nat.sub_self, Bool.not_false, Bool.not_true, q, bL_map, bOf]
  rw [List.all_map]
  rfl
theorem is_numbers_n {d : PyData} (h : ndD d = true) (h' : ∀ ds, d ≠ .tuple ds) : F_is_numbers [d] = some (.bool false) := by
  unfold F_is_numbers T_is_numbers
  cases d with
  | dict kvs => cases h
  | tuple ds => exact absurd rfl (h' ds)
  | _ =>
    simp -implicitDefEqProofs only [z_bool_none, z_bool_bool, z_bool_int, z_bool_str, z_bool_list, z_bool_tuple, z_int_none, z_int_bool, z_int_int, z_int_str, z_int_list, z_int_tuple, z_tuple_none, z_tuple_bool, z_tuple_int, z_tuple_str, z_tuple_list, z_tuple_tuple, z_list_none, z_list_bool, z_list_int, z_list_str, z_list_list, z_list_tuple, z_str_none, z_str_bool, z_str_int, z_str_str, z_str_list, z_str_tuple, z_dict_none, z_dict_bool, z_dict_int, z_dict_str, z_dict_list, z_dict_tuple, q_seq, q_thn, q_thr, q_thb, q_thc, q_thro, q_if, q_ift, q_iff, q_nil, q_ret, q_retN, q_set, q_setO, q_setC, q_setW, q_frz, q_frzo, q_frzc, q_frzu, q_frzt, q_frzt', q_frzr, q_V, q_C, q_ow, q_Vc, q_Vo, q_Cc, q_Oo, q_K, q_N, q_aC, q_aC1, q_tup, q_lst, q_L, q_b, q_bb, q_kB, q_kNot, q_kAnd, q_kOr, q_kit, q_kif, q_kot, q_kof, q_eAnd, q_eOr, q_eit, q_eif, q_eot, q_eof, q_eNot, q_notO, q_eIf, q_eIt, q_eIff, q_bin, q_bin1, q_ch, q_ch1, q_ch2, q_ch3t, q_ch3f, q_addI, q_addS, q_addT, q_addL, q_sub, q_mul, q_mulT, q_imul, q_iadd, q_iaddS, q_fdiv, q_mod, q_pow, q_lsh, q_rsh, q_band, q_lt, q_le, q_gt, q_ge, q_eqI, q_neI, q_isB, q_isN, q_isnB, q_isnN, q_neg, q_un, q_revL, q_revT, q_ixL, q_ixT, q_iOf, q_oN, q_oS, q_sl, q_sl1, q_sl2, q_slT, q_slL, q_call, q_cb, q_cf, q_lenL, q_lenT, q_intI, q_intB, q_abs, q_tupL, q_tupT, q_listL, q_listT, q_sort, q_all, q_max2, q_min2, q_sumL, q_sumT, q_isi, q_isO, q_iseq, q_itL, q_itT, q_revF, q_lrv, q_r1, q_r2, q_r2', q_gN, q_gT, q_gTL, q_sAn, q_sAc, q_app, q_app1, q_app2, q_put, q_put1, q_put2, q_put3, q_aug, q_unp, q_unp1, q_nxO, q_par, q_parO, q_run, q_outr, q_outn, start0, Option.bind_some, Option.bind_none, Option.map_some, Option.map_none, List.map_cons, List.map_nil, List.length_cons, List.length_nil, List.replicate_succ, List.replicate_zero, List.cons_append, List.nil_append, List.append_nil, List.getElem?_cons_zero, List.getElem?_cons_succ, List.getElem?_nil, List.set_cons_zero, List.set_cons_succ, chkL_of, chkT_of, Nat.zero_le, Nat.reduceLeDiff, Nat.reduceSub, Nat.reduceAdd, Nat.sub_self, Bool.not_false, Bool.not_true, bOf]
    try rfl

theorem ok_is_numbers {f : Addr} {fd : FuncData} {k : Nat} (B : Bt mg) (D : Fun K "is_numbers" "is_numbers" s_is_numbers f fd) (C_is_whole : Cl P w K mg base k "is_whole" 1 F_is_whole) :
    FnOk P w K mg base CX0 (k + 1) f fd ["value"] (spD K ["value"].length (runD N_is_numbers.length T_is_numbers)) := by
  have nd := sc_is_numbers.nd
  refine fnD D sc_is_numbers fun cdv A outer s H E hr => ?_
  exact (dss_one (ds_ret (de_and (de_isi isT_tuple B.isinstance B.tuple (dv 0)).s (de_oneE (de_cb (c_all rfl) B.all (das_cons (df_lc ([("item", 1)] : List (Str × Nat)) rfl nd (di_seq (dc 0)) (blkOk_by (N := N_is_numbers) (sc := (defScope s_is_numbers)) (scope := mkS [(".0", .local), ("item", .local), ("is_whole", .globalImplicit)]) (by decide +kernel)) (dgr_name 1) (fun _ _ _ _ _ => dg_name 1 nd) (fun _ _ _ _ _ => dts_nil) (fun _ _ _ _ _ => (de_call (C_is_whole.fc hr (Nat.le_refl _)) (da_cons (dc 1) da_nil)))).s das_nil))))))

/-! is_from -/
abbrev s_is_from : Stmt := topS 3
abbrev N_is_from : List Str := ["value", "low", "high"]
theorem sc_is_from : FnScope N_is_from ["value", "low", "high"] (defScope s_is_from) := ⟨rfl, rfl, rfl, by decide +kernel, rfl, by decide +kernel, by decide +kernel⟩
def T_is_from : En → Option Ou :=
  (sRet (eAnd (eCall F_is_whole (aC (eC 0) aN)) (eChain dLe dLe (eV 1) (eV 0) (eV 2))))

def F_is_from : List PyData → Option PyData := runD N_is_from.length T_is_from
theorem fix_is_from : ∀ ds d, ds.length = 3 → F_is_from ds = some d → runD N_is_from.length T_is_from ds = some d := fun _ _ _ h => h

theorem is_from_e {d : PyData} (h : ndD d = true) : F_is_from [d, .int 0, .int 1] = some (.bool (oneB d)) := by
  unfold F_is_from T_is_from
  have hw := is_whole_e h
  cases d with
  | int i =>
    replace hw : F_is_whole [PyData.int i] = some (.bool true) := hw
    show _ = some (PyData.bool (decide (0 ≤ i) && decide (i ≤ 1)))
    by_cases h0 : 0 ≤ i
    · simp -implicitDefEqProofs only [z_bool_none, z_bool_bool, z_bool_int, z_bool_str, z_bool_list, z_bool_tuple, z_int_none, z_int_bool, z_int_int, z_int_str, z_int_list, z_int_tuple, z_tuple_none, z_tuple_bool, z_tuple_int, z_tuple_str, z_tuple_list, z_tuple_tuple, z_list_none, z_list_bool, z_list_int, z_list_str, z_list_list, z_list_tuple, z_str_none, z_str_bool, z_str_int, z_str_str, z_str_list, z_str_tuple, z_dict_none, z_dict_bool, z_dict_int, z_dict_str, z_dict_list, z_dict_tuple, q_seq, q_thn, q_thr, q_thb, q_thc, q_thro, q_if, q_ift, q_iff, q_nil, q_ret, q_retN, q_set, q_setO, q_setC, q_setW, q_frz, q_frzo, q_frzc, q_frzu, q_frzt, q_frzt', q_frzr, q_V, q_C, q_ow, q_Vc, q_Vo, q_Cc, q_Oo, q_K, q_N, q_aC, q_aC1, q_tup, q_lst, q_L, q_b, q_bb, q_kB, q_kNot, q_kAnd, q_kOr, q_kit, q_kif, q_kot, q_kof, q_eAnd, q_eOr, q_eit, q_eif, q_eot, q_eof, q_eNot, q_notO, q_eIf, q_eIt, q_eIff, q_bin, q_bin1, q_ch, q_ch1, q_ch2, q_ch3t, q_ch3f, q_addI, q_addS, q_addT, q_addL, q_sub, q_mul, q_mulT, q_imul, q_iadd, q_iaddS, q_fdiv, q_mod, q_pow, q_lsh, q_rsh, q_band, q_lt, q_le, q_gt, q_ge, q_eqI, q_neI, q_isB, q_isN, q_isnB, q_isnN, q_neg, q_un, q_revL, q_revT, q_ixL, q_ixT, q_iOf, q_oN, q_oS, q_sl, q_sl1, q_sl2, q_slT, q_slL, q_call, q_cb, q_cf, q_lenL, q_lenT, q_intI, q_intB, q_abs, q_tupL, q_tupT, q_listL, q_listT, q_sort, q_all, q_max2, q_min2, q_sumL, q_sumT, q_isi, q_isO, q_iseq, q_itL, q_itT, q_revF, q_lrv, q_r1, q_r2, q_r2', q_gN, q_gT, q_gTL, q_sAn, q_sAc, q_app, q_app1, q_app2, q_put, q_put1, q_put2, q_put3, q_aug, q_unp, q_unp1, q_nxO, q_par, q_parO, q_run, q_outr, q_outn, start0, Option.bind_some, Option.bind_none, Option.map_some, Option.map_none, List.map_cons, List.map_nil, List.length_cons, List.length_nil, List.replicate_succ, List.replicate_zero, List.cons_append, List.nil_append, List.append_nil, List.getElem?_cons_zero, List.getElem?_cons_succ, List.getElem?_nil, List.set_cons_zero, List.set_cons_succ, chkL_of, chkT_of, Nat.zero_le, Nat.reduceLeDiff, Nat.reduceSub, Nat.reduceAdd, Nat.sub_self, Bool.not_false, Bool.not_true, hw, bOf, decide_eq_true h0, Bool.true_and]
    · simp -implicitDefEqProofs only [z_bool_none, z_bool_bool, z_bool_int, z_bool_str, z_bool_list, z_bool_tuple, z_int_none, z_int_bool, z_int_int, z_int_str, z_int_list, z_int_tuple, z_tuple_none, z_tuple_bool, z_tuple_int, z_tuple_str, z_tuple_list, z_tuple_tuple, z_list_none, z_list_bool, z_list_int, z_list_str, z_list_list, z_list_tuple, z_str_none, z_str_bool, z_str_int, z_str_str, z_str_list, z_str_tuple, z_dict_none, z_dict_bool, z_dict_int, z_dict_str, z_dict_list, z_dict_tuple, q_seq, q_thn, q_thr, q_thb, q_thc, q_thro, q_if, q_ift, q_iff, q_nil, q_ret, q_retN, q_set, q_setO, q_setC, q_setW, q_frz, q_frzo, q_frzc, q_frzu, q_frzt, q_frzt', q_frzr, q_V, q_C, q_ow, q_Vc, q_Vo, q_Cc, q_Oo, q_K, q_N, q_aC, q_aC1, q_tup, q_lst, q_L, q_b, q_bb, q_kB, q_kNot, q_kAnd, q_kOr, q_kit, q_kif, q_kot, q_kof, q_eAnd, q_eOr, q_eit, q_eif, q_eot, q_eof, q_eNot, q_notO, q_eIf, q_eIt, q_eIff, q_bin, q_bin1, q_ch, q_ch1, q_ch2, q_ch3t, q_ch3f, q_addI, q_addS, q_addT, q_addL, q_sub, q_mul, q_mulT, q_imul, q_iadd, q_iaddS, q_fdiv, q_mod, q_pow, q_lsh, q_rsh, q_band, q_lt, q_le, q_gt, q_ge, q_eqI, q_neI, q_isB, q_isN, q_isnB, q_isnN, q_neg, q_un, q_revL, q_revT, q_ixL, q_ixT, q_iOf, q_oN, q_oS, q_sl, q_sl1, q_sl2, q_slT, q_slL, q_call, q_cb, q_cf, q_lenL, q_lenT, q_intI, q_intB, q_abs, q_tupL, q_tupT, q_listL, q_listT, q_sort, q_all, q_max2, q_min2, q_sumL, q_sumT, q_isi, q_isO, q_iseq, q_itL, q_itT, q_revF, q_lrv, q_r1, q_r2, q_r2', q_gN, q_gT, q_gTL, q_sAn, q_sAc, q_app, q_app1, q_app2, q_put, q_put1, q_put2, q_put3, q_aug, q_unp, q_unp1, q_nxO, q_par, q_parO, q_run, q_outr, q_outn, start0, Option.bind_some, Option.bind_none, Option.map_some, Option.map_none, List.map_cons, List.map_nil, List.length_cons, List.length_nil, List.replicate_succ, List.replicate_zero, List.cons_append, List.nil_append, List.append_nil, List.getElem?_cons_zero, List.getElem?_cons_succ, List.getElem?_nil, List.set_cons_zero, List.set_cons_succ, chkL_of, chkT_of, Nat.zero_le, Nat.reduceLeDiff, Nat.reduceSub, Nat.reduceAdd, Nat.sub_self, Bool.not_false, Bool.not_true, hw, bOf, decide_eq_false h0, Bool.false_and]
  | _ =>
    have hw := hw
    replace hw : F_is_whole [_] = some (.bool false) := hw
    simp -implicitDefEqProofs only [z_bool_none, z_bool_bool, z_bool_int, z_bool_str, z_bool_list, z_bool_tuple, z_int_none, z_int_bool, z_int_int, z_int_str, z_int_list, z_int_tuple, z_tuple_none, z_tuple_bool, z_tuple_int, z_tuple_str, z_tuple_list, z_tuple_tuple, z_list_none, z_list_bool, z_list_int, z_list_str, z_list_list, z_list_tuple, z_str_none, z_str_bool, z_str_int, z_str_str, z_str_list, z_str_tuple, z_dict_none, z_dict_bool, z_dict_int, z_dict_str, z_dict_list, z_dict_tuple, q_seq, q_thn, q_thr, q_thb, q_thc, q_thro, q_if, q_ift, q_iff, q_nil, q_ret, q_retN, q_set, q_setO, q_setC, q_setW, q_frz, q_frzo, q_frzc, q_frzu, q_frzt, q_frzt', q_frzr, q_V, q_C, q_ow, q_Vc, q_Vo, q_Cc, q_Oo, q_K, q_N, q_aC, q_aC1, q_tup, q_lst, q_L, q_b, q_bb, q_kB, q_kNot, q_kAnd, q_kOr, q_kit, q_kif, q_kot, q_kof, q_eAnd, q_eOr, q_eit, q_eif, q_eot, q_eof, q_eNot, q_notO, q_eIf, q_eIt, q_eIff, q_bin, q_bin1, q_ch, q_ch1, q_ch2, q_ch3t, q_ch3f, q_addI, q_addS, q_addT, q_addL, q_sub, q_mul, q_mulT, q_imul, q_iadd, q_iaddS, q_fdiv, q_mod, q_pow, q_lsh, q_rsh, q_band, q_lt, q_le, q_gt, q_ge, q_eqI, q_neI, q_isB, q_isN, q_isnB, q_isnN, q_neg, q_un, q_revL, q_revT, q_ixL, q_ixT, q_iOf, q_oN, q_oS, q_sl, q_sl1, q_sl2, q_slT, q_slL, q_call, q_cb, q_cf, q_lenL, q_lenT, q_intI, q_intB, q_abs, q_tupL, q_tupT, q_listL, q_listT, q_sort, q_all, q_max2, q_min2, q_sumL, q_sumT, q_isi, q_isO, q_iseq, q_itL, q_itT, q_revF, q_lrv, q_r1, q_r2, q_r2', q_gN, q_gT, q_gTL, q_sAn, q_sAc, q_app, q_app1, q_app2, q_put, q_put1, q_put2, q_put3, q_aug, q_unp, q_unp1, q_nxO, q_par, q_parO, q_run, q_outr, q_outn, start0, Option.bind_some, Option.bind_none, Option.map_some, Option.map_none, List.map_cons, List.map_nil, List.length_cons, List.length_nil, List.replicate_succ, List.replicate_zero, List.cons_append, List.nil_append, List.append_nil, List.getElem?_cons_zero, List.getElem?_cons_succ, List.getElem?_nil, List.set_cons_zero, List.set_cons_succ, chkL_of, chkT_of, Nat.zero_le, Nat.reduceLeDiff, Nat.reduceSub, Nat.reduceAdd, Nat.sub_self, Bool.not_false, Bool.not_true, hw, bOf]
    try rfl
def fromB (lo hi : Int) : PyData → Bool
  | .int i => decide (lo ≤ i) && decide (i ≤ hi)
  | _ => false
theorem is_from_g {d : PyData} (lo hi : Int) (h : ndD d = true) : F_is_from [d, .int lo, .int hi] = some (.bool (fromB lo hi d)) := by
  unfold F_is_from T_is_from
  have hw := is_whole_e h
  cases d with
  | int i =>
    replace hw : F_is_whole [PyData.int i] = some (.bool true) := hw
    show _ = some (PyData.bool (decide (lo ≤ i) && decide (i ≤ hi)))
    cases h0 : decide (lo ≤ i) with
    | true => simp -implicitDefEqProofs only [z_bool_none, z_bool_bool, z_bool_int, z_bool_str, z_bool_list, z_bool_tuple, z_int_none, z_int_bool, z_int_int, z_int_str, z_int_list, z_int_tuple, z_tuple_none, z_tuple_bool, z_tuple_int, z_tuple_str, z_tuple_list, z_tuple_tuple, z_list_none, z_list_bool, z_list_int, z_list_str, z_list_list, z_list_tuple, z_str_none, z_str_bool, z_str_int, z_str_str, z_str_list, z_str_tuple, z_dict_none, z_dict_bool, z_dict_int, z_dict_str, z_dict_list, z_dict_tuple, q_seq, q_thn, q_thr, q_thb, q_thc, q_thro, q_if, q_ift, q_iff, q_nil, q_ret, q_retN, q_set, q_setO, q_setC, q_setW, q_frz, q_frzo, q_frzc, q_frzu, q_frzt, q_frzt', q_frzr, q_V, q_C, q_ow, q_Vc, q_Vo, q_Cc, q_Oo, q_K, q_N, q_aC, q_aC1, q_tup, q_lst, q_L, q_b, q_bb, q_kB, q_kNot, q_kAnd, q_kOr, q_kit, q_kif, q_kot, q_kof, q_eAnd, q_eOr, q_eit, q_eif, q_eot, q_eof, q_eNot, q_notO, q_eIf, q_eIt, q_eIff, q_bin, q_bin1, q_ch, q_ch1, q_ch2, q_ch3t, q_ch3f, q_addI, q_addS, q_addT, q_addL, q_sub, q_mul, q_mulT, q_imul, q_iadd, q_iaddS, q_fdiv, q_mod, q_pow, q_lsh, q_rsh, q_band, q_lt, q_le, q_gt, q_ge, q_eqI, q_neI, q_isB, q_isN, q_isnB, q_isnN, q_neg, q_un, q_revL, q_revT, q_ixL, q_ixT, q_iOf, q_oN, q_oS, q_sl, q_sl1, q_sl2, q_slT, q_slL, q_call, q_cb, q_cf, q_lenL, q_lenT, q_intI, q_intB, q_abs, q_tupL, q_tupT, q_listL, q_listT, q_sort, q_all, q_max2, q_min2, q_sumL, q_sumT, q_isi, q_isO, q_iseq, q_itL, q_itT, q_revF, q_lrv, q_r1, q_r2, q_r2', q_gN, q_gT, q_gTL, q_sAn, q_sAc, q_app, q_app1, q_app2, q_put, q_put1, q_put2, q_put3, q_aug, q_unp, q_unp1, q_nxO, q_par, q_parO, q_run, q_outr, q_outn, start0, Option.bind_some, Option.bind_none, Option.map_some, Option.map_none, List.map_cons, List.map_nil, List.length_cons, List.length_nil, List.replicate_succ, List.replicate_zero, List.cons_append, List.nil_append, List.append_nil, List.getElem?_cons_zero, List.getElem?_cons_succ, List.getElem?_nil, List.set_cons_zero, List.set_cons_succ, chkL_of, chkT_of, Nat.zero_le, Nat.reduceLeDiff, Nat.reduceSub, Nat.reduceAdd, Nat.sub_self, Bool.not_false, Bool.not_true, hw, bOf, h0, Bool.true_and]
    | false => simp -implicitDefEqProofs only [z_bool_none, z_bool_bool, z_bool_int, z_bool_str, z_bool_list, z_bool_tuple, z_int_none, z_int_bool, z_int_int, z_int_str, z_int_list, z_int_tuple, z_tuple_none, z_tuple_bool, z_tuple_int, z_tuple_str, z_tuple_list, z_tuple_tuple, z_list_none, z_list_bool, z_list_int, z_list_str, z_list_list, z_list_tuple, z_str_none, z_str_bool, z_str_int, z_str_str, z_str_list, z_str_tuple, z_dict_none, z_dict_bool, z_dict_int, z_dict_str, z_dict_list, z_dict_tuple, q_seq, q_thn, q_thr, q_thb, q_thc, q_thro, q_if, q_ift, q_iff, q_nil, q_ret, q_retN, q_set, q_setO, q_setC, q_setW, q_frz, q_frzo, q_frzc, q_frzu, q_frzt, q_frzt', q_frzr, q_V, q_C, q_ow, q_Vc, q_Vo, q_Cc, q_Oo, q_K, q_N, q_aC, q_aC1, q_tup, q_lst, q_L, q_b, q_bb, q_kB, q_kNot, q_kAnd, q_kOr, q_kit, q_kif, q_kot, q_kof, q_eAnd, q_eOr, q_eit, q_eif, q_eot, q_eof, q_eNot, q_notO, q_eIf, q_eIt, q_eIff, q_bin, q_bin1, q_ch, q_ch1, q_ch2, q_ch3t, q_ch3f, q_addI, q_addS, q_addT, q_addL, q_sub, q_mul, q_mulT, q_imul, q_iadd, q_iaddS, q_fdiv, q_mod, q_pow, q_lsh, q_rsh, q_band, q_lt, q_le, q_gt, q_ge, q_eqI, q_neI, q_isB, q_isN, q_isnB, q_isnN, q_neg, q_un, q_revL, q_revT, q_ixL, q_ixT, q_iOf, q_oN, q_oS, q_sl, q_sl1, q_sl2, q_slT, q_slL, q_call, q_cb, q_cf, q_lenL, q_lenT, q_intI, q_intB, q_abs, q_tupL, q_tupT, q_listL, q_listT, q_sort, q_all, q_max2, q_min2, q_sumL, q_sumT, q_isi, q_isO, q_iseq, q_itL, q_itT, q_revF, q_lrv, q_r1, q_r2, q_r2', q_gN, q_gT, q_gTL, q_sAn, q_sAc, q_app, q_app1, q_app2, q_put, q_put1, q_put2, q_put3, q_aug, q_unp, q_unp1, q_nxO, q_par, q_parO, q_run, q_outr, q_outn, start0, Option.bind_some, Option.bind_none, Option.map_some, Option.map_none, List.map_cons, List.map_nil, List.length_cons, List.length_nil, List.replicate_succ, List.replicate_zero, List.cons_append, List.nil_append, List.append_nil, List.getElem?_cons_zero, List.getElem?_cons_succ, List.getElem?_nil, List.set_cons_zero, List.set_cons_succ, chkL_of, chkT_of, Nat.zero_le, Nat.reduceLeDiff, Nat.reduceSub, Nat.reduceAdd, Nat.sub_self, Bool.not_false, Bool.not_true, hw, bOf, h0, Bool.false_and]
  | _ =>
    have hw := hw
    replace hw : F_is_whole [_] = some (.bool false) := hw
    simp -implicitDefEqProofs only [z_bool_none, z_bool_bool, z_bool_int, z_bool_str, z_bool_list, z_bool_tuple, z_int_none, z_int_bool, z_int_int, z_int_str, z_int_list, z_int_tuple, z_tuple_none, z_tuple_bool, z_tuple_int, z_tuple_str, z_tuple_list, z_tuple_tuple, z_list_none, z_list_bool, z_list_int, z_list_str, z_list_list, z_list_tuple, z_str_none, z_str_bool, z_str_int, z_str_str, z_str_list, z_str_tuple, z_dict_none, z_dict_bool, z_dict_int, z_dict_str, z_dict_list, z_dict_tuple, q_seq, q_thn, q_thr, q_thb, q_thc, q_thro, q_if, q_ift, q_iff, q_nil, q_ret, q_retN, q_set, q_setO, q_setC, q_setW, q_frz, q_frzo, q_frzc, q_frzu, q_frzt, q_frzt', q_frzr, q_V, q_C, q_ow, q_Vc, q_Vo, q_Cc, q_Oo, q_K, q_N, q_aC, q_aC1, q_tup, q_lst, q_L, q_b, q_bb, q_kB, q_kNot, q_kAnd, q_kOr, q_kit, q_kif, q_kot, q_kof, q_eAnd, q_eOr, q_eit, q_eif, q_eot, q_eof, q_eNot, q_notO, q_eIf, q_eIt, q_eIff, q_bin, q_bin1, q_ch, q_ch1, q_ch2, q_ch3t, q_ch3f, q_addI, q_addS, q_addT, q_addL, q_sub, q_mul, q_mulT, q_imul, q_iadd, q_iaddS, q_fdiv, q_mod, q_pow, q_lsh, q_rsh, q_band, q_lt, q_le, q_gt, q_ge, q_eqI, q_neI, q_isB, q_isN, q_isnB, q_isnN, q_neg, q_un, q_revL, q_revT, q_ixL, q_ixT, q_iOf, q_oN, q_oS, q_sl, q_sl1, q_sl2, q_slT, q_slL, q_call, q_cb, q_cf, q_lenL, q_lenT, q_intI, q_intB, q_abs, q_tupL, q_tupT, q_listL, q_listT, q_sort, q_all, q_max2, q_min2, q_sumL, q_sumT, q_isi, q_isO, q_iseq, q_itL, q_itT, q_revF, q_lrv, q_r1, q_r2, q_r2', q_gN, q_gT, q_gTL, q_sAn, q_sAc, q_app, q_app1, q_app2, q_put, q_put1, q_put2, q_put3, q_aug, q_unp, q_unp1, q_nxO, q_par, q_parO, q_run, q_outr, q_outn, start0, Option.bind_some, Option.bind_none, Option.map_some, Option.map_none, List.map_cons, List.map_nil, List.length_cons, List.length_nil, List.replicate_succ, List.replicate_zero, List.cons_append, List.nil_append, List.append_nil, List.getElem?_cons_zero, List.getElem?_cons_succ, List.getElem?_nil, List.set_cons_zero, List.set_cons_succ, chkL_of, chkT_of, Nat.zero_le, Nat.reduceLeDiff, Nat.reduceSub, Nat.reduceAdd, Nat.sub_self, Bool.not_false, Bool.not_true, hw, bOf]
    try rfl

theorem ok_is_from {f : Addr} {fd : FuncData} {k : Nat} (B : Bt mg) (D : Fun K "is_from" "is_from" s_is_from f fd) (C_is_whole : Cl P w K mg base k "is_whole" 1 F_is_whole) :
    FnOk P w K mg base CX0 (k + 1) f fd ["value", "low", "high"] (spD K ["value", "low", "high"].length (runD N_is_from.length T_is_from)) := by
  have nd := sc_is_from.nd
  refine fnD D sc_is_from fun cdv A outer s H E hr => ?_
  exact (dss_one (ds_ret (de_and (de_call (C_is_whole.fc hr (Nat.le_refl _)) (da_cons (dc 0) da_nil)).s (de_oneE (de_chain o_le o_le (dv 1) (dv 0) (dv 2))))))

/-! is_named -/
abbrev s_is_named : Stmt := topS 4
abbrev N_is_named : List Str := ["value", "word", "many"]
theorem sc_is_named : FnScope N_is_named ["value", "word", "many"] (defScope s_is_named) := ⟨rfl, rfl, rfl, by decide +kernel, rfl, by decide +kernel, by decide +kernel⟩
def T_is_named : En → Option Ou :=
  (sRet (eAnd (eIsi "tuple" (eV 0)) (eAnd (eBin dEq (eCb dLen (aC (eV 0) aN)) (eV 2)) (eAnd (eIsi "str" (eBin dIx (eV 0) (eK (.int 0)))) (eBin dEq (eBin dIx (eV 0) (eK (.int 0))) (eV 1))))))

def F_is_named : List PyData → Option PyData := runD N_is_named.length T_is_named
theorem fix_is_named : ∀ ds d, ds.length = 3 → F_is_named ds = some d → runD N_is_named.length T_is_named ds = some d := fun _ _ _ h => h

theorem is_named_g {w : Str} (hw : SeqAt.shaped (.str w) = true) {n : Int} (hn : 0 < n) {L S B : Nat} {d : PyData} (h : bdD L S B d = true) : F_is_named [d, .str w, .int n] = some (.bool (namedB w n d)) := by
  unfold F_is_named T_is_named
  cases d with
  | dict kvs =>
    unfold bdD at h
    cases h
  | tuple ds =>
    cases ds with
    | nil =>
      have hq : (((0 : Nat) : Int) == n) = false := beq_eq_false_iff_ne.mpr (by omega)
      simp -implicitDefEqProofs only [z_bool_none, z_bool_bool, z_bool_int, z_bool_str, z_bool_list, z_bool_tuple, z_int_none, z_int_bool, z_int_int, z_int_str, z_int_list, z_int_tuple, z_tuple_none, z_tuple_bool, z_tuple_int, z_tuple_str, z_tuple_list, z_tuple_tuple, z_list_none, z_list_bool, z_list_int, z_list_str, z_list_list, z_list_tuple, z_str_none, z_str_bool, z_str_int, z_str_str, z_str_list, z_str_tuple, z_dict_none, z_dict_bool, z_dict_int, z_dict_str, z_dict_list, z_dict_tuple, q_seq, q_thn, q_thr, q_thb, q_thc, q_thro, q_if, q_ift, q_iff, q_nil, q_ret, q_retN, q_set, q_setO, q_setC, q_setW, q_frz, q_frzo, q_frzc, q_frzu, q_frzt, q_frzt', q_frzr, q_V, q_C, q_ow, q_Vc, q_Vo, q_Cc, q_Oo, q_K, q_N, q_aC, q_aC1, q_tup, q_lst, q_L, q_b, q_bb, q_kB, q_kNot, q_kAnd, q_kOr, q_kit, q_kif, q_kot, q_kof, q_eAnd, q_eOr, q_eit, q_eif, q_eot, q_eof, q_eNot, q_notO, q_eIf, q_eIt, q_eIff, q_bin, q_bin1, q_ch, q_ch1, q_ch2, q_ch3t, q_ch3f, q_addI, q_addS, q_addT, q_addL, q_sub, q_mul, q_mulT, q_imul, q_iadd, q_iaddS, q_fdiv, q_mod, q_pow, q_lsh, q_rsh, q_band, q_lt, q_le, q_gt, q_ge, q_eqI, q_neI, q_isB, q_isN, q_isnB, q_isnN, q_neg, q_un, q_revL, q_revT, q_ixL, q_ixT, q_iOf, q_oN, q_oS, q_sl, q_sl1, q_sl2, q_slT, q_slL, q_call, q_cb, q_cf, q_lenL, q_lenT, q_intI, q_intB, q_abs, q_tupL, q_tupT, q_listL, q_listT, q_sort, q_all, q_max2, q_min2, q_sumL, q_sumT, q_isi, q_isO, q_iseq, q_itL, q_itT, q_revF, q_lrv, q_r1, q_r2, q_r2', q_gN, q_gT, q_gTL, q_sAn, q_sAc, q_app, q_app1, q_app2, q_put, q_put1, q_put2, q_put3, q_aug, q_unp, q_unp1, q_nxO, q_par, q_parO, q_run, q_outr, q_outn, start0, Option.bind_some, Option.bind_none, Option.map_some, Option.map_none, List.map_cons, List.map_nil, List.length_cons, List.length_nil, List.replicate_succ, List.replicate_zero, List.cons_append, List.nil_append, List.append_nil, List.getElem?_cons_zero, List.getElem?_cons_succ, List.getElem?_nil, List.set_cons_zero, List.set_cons_succ, chkL_of, chkT_of, Nat.zero_le, Nat.reduceLeDiff, Nat.reduceSub, Nat.reduceAdd, Nat.sub_self, Bool.not_false, Bool.not_true, bOf, hq]
      rfl
    | cons u r =>
      have hu := (bd_tup.mp h).2 u List.mem_cons_self
      cases hq : (((r.length + 1 : Nat) : Int) == n) with
      | false =>
        have hb : namedB w n (.tuple (u :: r)) = false := by
          cases u with
          | str x =>
            show ((((r.length + 1 : Nat) : Int) == n) && (x == w)) = false
            rw [hq, Bool.false_and]
          | _ => rfl
        rw [hb]
        simp -implicitDefEqProofs only [z_bool_none, z_bool_bool, z_bool_int, z_bool_str, z_bool_list, z_bool_tuple, z_int_none, z_int_bool, z_int_int, z_int_str, z_int_list, z_int_tuple, z_tuple_none, z_tuple_bool, z_tuple_int, z_tuple_str, z_tuple_list, z_tuple_tuple, z_list_none, z_list_bool, z_list_int, z_list_str, z_list_list, z_list_tuple, z_str_none, z_str_bool, z_str_int, z_str_str, z_str_list, z_str_tuple, z_dict_none, z_dict_bool, z_dict_int, z_dict_str, z_dict_list, z_dict_tuple, q_seq, q_thn, q_thr, q_thb, q_thc, q_thro, q_if, q_ift, q_iff, q_nil, q_ret, q_retN, q_set, q_setO, q_setC, q_setW, q_frz, q_frzo, q_frzc, q_frzu, q_frzt, q_frzt', q_frzr, q_V, q_C, q_ow, q_Vc, q_Vo, q_Cc, q_Oo, q_K, q_N, q_aC, q_aC1, q_tup, q_lst, q_L, q_b, q_bb, q_kB, q_kNot, q_kAnd, q_kOr, q_kit, q_kif, q_kot, q_kof, q_eAnd, q_eOr, q_eit, q_eif, q_eot, q_eof, q_eNot, q_notO, q_eIf, q_eIt, q_eIff, q_bin, q_bin1, q_ch, q_ch1, q_ch2, q_ch3t, q_ch3f, q_addI, q_addS, q_addT, q_addL, q_sub, q_mul, q_mulT, q_imul, q_iadd, q_iaddS, q_fdiv, q_mod, q_pow, q_lsh, q_rsh, q_band, q_lt, q_le, q_gt, q_ge, q_eqI, q_neI, q_isB, q_isN, q_isnB, q_isnN, q_neg, q_un, q_revL, q_revT, q_ixL, q_ixT, q_iOf, q_oN, q_oS, q_sl, q_sl1, q_sl2, q_slT, q_slL, q_call, q_cb, q_cf, q_lenL, q_lenT, q_intI, q_intB, q_abs, q_tupL, q_tupT, q_listL, q_listT, q_sort, q_all, q_max2, q_min2, q_sumL, q_sumT, q_isi, q_isO, q_iseq, q_itL, q_itT, q_revF, q_lrv, q_r1, q_r2, q_r2', q_gN, q_gT, q_gTL, q_sAn, q_sAc, q_app, q_app1, q_app2, q_put, q_put1, q_put2, q_put3, q_aug, q_unp, q_unp1, q_nxO, q_par, q_parO, q_run, q_outr, q_outn, start0, Option.bind_some, Option.bind_none, Option.map_some, Option.map_none, List.map_cons, List.map_nil, List.length_cons, List.length_nil, List.replicate_succ, List.replicate_zero, List.cons_append, List.nil_append, List.append_nil, List.getElem?_cons_zero, List.getElem?_cons_succ, List.getElem?_nil, List.set_cons_zero, List.set_cons_succ, chkL_of, chkT_of, Nat.zero_le, Nat.reduceLeDiff, Nat.reduceSub, Nat.reduceAdd, Nat.sub_self, Bool.not_false, Bool.not_true, bOf, hq]
      | true =>
        cases u with
        | dict kvs =>
          unfold bdD at hu
          cases hu
        | str x =>
          have hb : namedB w n (.tuple (.str x :: r)) = (x == w) := by
            show ((((r.length + 1 : Nat) : Int) == n) && (x == w)) = _
            rw [hq, Bool.true_and]
          rw [hb]
          simp -implicitDefEqProofs only [z_bool_none, z_bool_bool, z_bool_int, z_bool_str, z_bool_list, z_bool_tuple, z_int_none, z_int_bool, z_int_int, z_int_str, z_int_list, z_int_tuple, z_tuple_none, z_tuple_bool, z_tuple_int, z_tuple_str, z_tuple_list, z_tuple_tuple, z_list_none, z_list_bool, z_list_int, z_list_str, z_list_list, z_list_tuple, z_str_none, z_str_bool, z_str_int, z_str_str, z_str_list, z_str_tuple, z_dict_none, z_dict_bool, z_dict_int, z_dict_str, z_dict_list, z_dict_tuple, q_seq, q_thn, q_thr, q_thb, q_thc, q_thro, q_if, q_ift, q_iff, q_nil, q_ret, q_retN, q_set, q_setO, q_setC, q_setW, q_frz, q_frzo, q_frzc, q_frzu, q_frzt, q_frzt', q_frzr, q_V, q_C, q_ow, q_Vc, q_Vo, q_Cc, q_Oo, q_K, q_N, q_aC, q_aC1, q_tup, q_lst, q_L, q_b, q_bb, q_kB, q_kNot, q_kAnd, q_kOr, q_kit, q_kif, q_kot, q_kof, q_eAnd, q_eOr, q_eit, q_eif, q_eot, q_eof, q_eNot, q_notO, q_eIf, q_eIt, q_eIff, q_bin, q_bin1, q_ch, q_ch1, q_ch2, q_ch3t, q_ch3f, q_addI, q_addS, q_addT, q_addL, q_sub, q_mul, q_mulT, q_imul, q_iadd, q_iaddS, q_fdiv, q_mod, q_pow, q_lsh, q_rsh, q_band, q_lt, q_le, q_gt, q_ge, q_eqI, q_neI, q_isB, q_isN, q_isnB, q_isnN, q_neg, q_un, q_revL, q_revT, q_ixL, q_ixT, q_iOf, q_oN, q_oS, q_sl, q_sl1, q_sl2, q_slT, q_slL, q_call, q_cb, q_cf, q_lenL, q_lenT, q_intI, q_intB, q_abs, q_tupL, q_tupT, q_listL, q_listT, q_sort, q_all, q_max2, q_min2, q_sumL, q_sumT, q_isi, q_isO, q_iseq, q_itL, q_itT, q_revF, q_lrv, q_r1, q_r2, q_r2', q_gN, q_gT, q_gTL, q_sAn, q_sAc, q_app, q_app1, q_app2, q_put, q_put1, q_put2, q_put3, q_aug, q_unp, q_unp1, q_nxO, q_par, q_parO, q_run, q_outr, q_outn, start0, Option.bind_some, Option.bind_none, Option.map_some, Option.map_none, List.map_cons, List.map_nil, List.length_cons, List.length_nil, List.replicate_succ, List.replicate_zero, List.cons_append, List.nil_append, List.append_nil, List.getElem?_cons_zero, List.getElem?_cons_succ, List.getElem?_nil, List.set_cons_zero, List.set_cons_succ, chkL_of, chkT_of, Nat.zero_le, Nat.reduceLeDiff, Nat.reduceSub, Nat.reduceAdd, Nat.sub_self, Bool.not_false, Bool.not_true, bOf, hq, atI_cons0, dEq_str (bd_str.mp hu).2 hw]
        | _ =>
          simp -implicitDefEqProofs only [z_bool_none, z_bool_bool, z_bool_int, z_bool_str, z_bool_list, z_bool_tuple, z_int_none, z_int_bool, z_int_int, z_int_str, z_int_list, z_int_tuple, z_tuple_none, z_tuple_bool, z_tuple_int, z_tuple_str, z_tuple_list, z_tuple_tuple, z_list_none, z_list_bool, z_list_int, z_list_str, z_list_list, z_list_tuple, z_str_none, z_str_bool, z_str_int, z_str_str, z_str_list, z_str_tuple, z_dict_none, z_dict_bool, z_dict_int, z_dict_str, z_dict_list, z_dict_tuple, q_seq, q_thn, q_thr, q_thb, q_thc, q_thro, q_if, q_ift, q_iff, q_nil, q_ret, q_retN, q_set, q_setO, q_setC, q_setW, q_frz, q_frzo, q_frzc, q_frzu, q_frzt, q_frzt', q_frzr, q_V, q_C, q_ow, q_Vc, q_Vo, q_Cc, q_Oo, q_K, q_N, q_aC, q_aC1, q_tup, q_lst, q_L, q_b, q_bb, q_kB, q_kNot, q_kAnd, q_kOr, q_kit, q_kif, q_kot, q_kof, q_eAnd, q_eOr, q_eit, q_eif, q_eot, q_eof, q_eNot, q_notO, q_eIf, q_eIt, q_eIff, q_bin, q_bin1, q_ch, q_ch1, q_ch2, q_ch3t, q_ch3f, q_addI, q_addS, q_addT, q_addL, q_sub, q_mul, q_mulT, q_imul, q_iadd, q_iaddS, q_fdiv, q_mod, q_pow, q_lsh, q_rsh, q_band, q_lt, q_le, q_gt, q_ge, q_eqI, q_neI, q_isB, q_isN, q_isnB, q_isnN, q_neg, q_un, q_revL, q_revT, q_ixL, q_ixT, q_iOf, q_oN, q_oS, q_sl, q_sl1, q_sl2, q_slT, q_slL, q_call, q_cb, q_cf, q_lenL, q_lenT, q_intI, q_intB, q_abs, q_tupL, q_tupT, q_listL, q_listT, q_sort, q_all, q_max2, q_min2, q_sumL, q_sumT, q_isi, q_isO, q_iseq, q_itL, q_itT, q_revF, q_lrv, q_r1, q_r2, q_r2', q_gN, q_gT, q_gTL, q_sAn, q_sAc, q_app, q_app1, q_app2, q_put, q_put1, q_put2, q_put3, q_aug, q_unp, q_unp1, q_nxO, q_par, q_parO, q_run, q_outr, q_outn, start0, Option.bind_some, Option.bind_none, Option.map_some, Option.map_none, List.map_cons, List.map_nil, List.length_cons, List.length_nil, List.replicate_succ, List.replicate_zero, List.cons_append, List.nil_append, List.append_nil, List.getElem?_cons_zero, List.getElem?_cons_succ, List.getElem?_nil, List.set_cons_zero, List.set_cons_succ, chkL_of, chkT_of, Nat.zero_le, Nat.reduceLeDiff, Nat.reduceSub, Nat.reduceAdd, Nat.sub_self, Bool.not_false, Bool.not_true, bOf, hq, atI_cons0]
          rfl
  | _ =>
    simp -implicitDefEqProofs only [z_bool_none, z_bool_bool, z_bool_int, z_bool_str, z_bool_list, z_bool_tuple, z_int_none, z_int_bool, z_int_int, z_int_str, z_int_list, z_int_tuple, z_tuple_none, z_tuple_bool, z_tuple_int, z_tuple_str, z_tuple_list, z_tuple_tuple, z_list_none, z_list_bool, z_list_int, z_list_str, z_list_list, z_list_tuple, z_str_none, z_str_bool, z_str_int, z_str_str, z_str_list, z_str_tuple, z_dict_none, z_dict_bool, z_dict_int, z_dict_str, z_dict_list, z_dict_tuple, q_seq, q_thn, q_thr, q_thb, q_thc, q_thro, q_if, q_ift, q_iff, q_nil, q_ret, q_retN, q_set, q_setO, q_setC, q_setW, q_frz, q_frzo, q_frzc, q_frzu, q_frzt, q_frzt', q_frzr, q_V, q_C, q_ow, q_Vc, q_Vo, q_Cc, q_Oo, q_K, q_N, q_aC, q_aC1, q_tup, q_lst, q_L, q_b, q_bb, q_kB, q_kNot, q_kAnd, q_kOr, q_kit, q_kif, q_kot, q_kof, q_eAnd, q_eOr, q_eit, q_eif, q_eot, q_eof, q_eNot, q_notO, q_eIf, q_eIt, q_eIff, q_bin, q_bin1, q_ch, q_ch1, q_ch2, q_ch3t, q_ch3f, q_addI, q_addS, q_addT, q_addL, q_sub, q_mul, q_mulT, q_imul, q_iadd, q_iaddS, q_fdiv, q_mod, q_pow, q_lsh, q_rsh, q_band, q_lt, q_le, q_gt, q_ge, q_eqI, q_neI, q_isB, q_isN, q_isnB, q_isnN, q_neg, q_un, q_revL, q_revT, q_ixL, q_ixT, q_iOf, q_oN, q_oS, q_sl, q_sl1, q_sl2, q_slT, q_slL, q_call, q_cb, q_cf, q_lenL, q_lenT, q_intI, q_intB, q_abs, q_tupL, q_tupT, q_listL, q_listT, q_sort, q_all, q_max2, q_min2, q_sumL, q_sumT, q_isi, q_isO, q_iseq, q_itL, q_itT, q_revF, q_lrv, q_r1, q_r2, q_r2', q_gN, q_gT, q_gTL, q_sAn, q_sAc, q_app, q_app1, q_app2, q_put, q_put1, q_put2, q_put3, q_aug, q_unp, q_unp1, q_nxO, q_par, q_parO, q_run, q_outr, q_outn, start0, Option.bind_some, Option.bind_none, Option.map_some, Option.map_none, List.map_cons, List.map_nil, List.length_cons, List.length_nil, List.replicate_succ, List.replicate_zero, List.cons_append, List.nil_append, List.append_nil, List.getElem?_cons_zero, List.getElem?_cons_succ, List.getElem?_nil, List.set_cons_zero, List.set_cons_succ, chkL_of, chkT_of, Nat.zero_le, Nat.reduceLeDiff, Nat.reduceSub, Nat.reduceAdd, Nat.sub_self, Bool.not_false, Bool.not_true, bOf]
    rfl

theorem ok_is_named {f : Addr} {fd : FuncData} {k : Nat} (B : Bt mg) (D : Fun K "is_named" "is_named" s_is_named f fd) :
    FnOk P w K mg base CX0 (k + 1) f fd ["value", "word", "many"] (spD K ["value", "word", "many"].length (runD N_is_named.length T_is_named)) := by
  have nd := sc_is_named.nd
  refine fnD D sc_is_named fun cdv A outer s H E hr => ?_
  exact (dss_one (ds_ret (de_and (de_isi isT_tuple B.isinstance B.tuple (dv 0)).s (de_and (de_cmp (o_eq hr) (de_cb c_len B.len (das_cons (dv 0) das_nil)).s (dv 2)).s (de_and (de_isi isT_str B.isinstance B.str (de_ix (dv 0) dint.s).s).s (de_oneE (de_cmp (o_eq hr) (de_ix (dv 0) dint.s).s (dv 1))))))))

/-! is_row -/
abbrev s_is_row : Stmt := topS 7
abbrev N_is_row : List Str := ["value", "k"]
theorem sc_is_row : FnScope N_is_row ["value"] (defScope s_is_row) := ⟨rfl, rfl, rfl, by decide +kernel, rfl, by decide +kernel, by decide +kernel⟩
def Q_is_row_1 : En → Option (List PyData) := eLc (iRange1 (eBin dSub (eCb dLen (aC (eV 0) aN)) (eK (.int 1)))) [1] (gN 1) (fun _ => some true) (eBin dGe (eBin dIx (eV 0) (eV 1)) (eBin dIx (eV 0) (eBin dAdd (eV 1) (eK (.int 1)))))
def T_is_row : En → Option Ou :=
  (sSeq (sIf (kOr (kNot (kB (eCall F_is_numbers (aC (eC 0) aN)))) (kNot (kB (eChain dLe dLe (eK (.int 1)) (eCb dLen (aC (eV 0) aN)) (eK (.int 6))))))
  (sRet (eK (.bool false)))
  sNil)
  (sRet (eCb dAll (aC (eL Q_is_row_1) aN))))

def F_is_row : List PyData → Option PyData := runD N_is_row.length T_is_row
theorem fix_is_row : ∀ ds d, ds.length = 1 → F_is_row ds = some d → runD N_is_row.length T_is_row ds = some d := fun _ _ _ h => h

theorem is_row_e {d : PyData} (h : ndD d = true) : F_is_row [d] = some (.bool (rowB d)) := by
  unfold F_is_row T_is_row
  cases d with
  | dict kvs => cases h
  | tuple ds =>
    have hn := is_numbers_t h
    cases e : iL ds with
    | none =>
      rw [iL_none e] at hn
      have hr : rowB (.tuple ds) = false := rowB_no e
      simp -implicitDefEqProofs only [z_bool_none, z_bool_bool, z_bool_int, z_bool_str, z_bool_list, z_bool_tuple, z_int_none, z_int_bool, z_int_int, z_int_str, z_int_list, z_int_tuple, z_tuple_none, z_tuple_bool, z_tuple_int, z_tuple_str, z_tuple_list, z_tuple_tuple, z_list_none, z_list_bool, z_list_int, z_list_str, z_list_list, z_list_tuple, z_str_none, z_str_bool, z_str_int, z_str_str, z_str_list, z_str_tuple, z_dict_none, z_dict_bool, z_dict_int, z_dict_str, z_dict_list, z_dict_tuple, q_seq, q_thn, q_thr, q_thb, q_thc, q_thro, q_if, q_ift, q_iff, q_nil, q_ret, q_retN, q_set, q_setO, q_setC, q_setW, q_frz, q_frzo, q_frzc, q_frzu, q_frzt, q_frzt', q_frzr, q_V, q_C, q_ow, q_Vc, q_Vo, q_Cc, q_Oo, q_K, q_N, q_aC, q_aC1, q_tup, q_lst, q_L, q_b, q_bb, q_kB, q_kNot, q_kAnd, q_kOr, q_kit, q_kif, q_kot, q_kof, q_eAnd, q_eOr, q_eit, q_eif, q_eot, q_eof, q_eNot, q_notO, q_eIf, q_eIt, q_eIff, q_bin, q_bin1, q_ch, q_ch1, q_ch2, q_ch3t, q_ch3f, q_addI, q_addS, q_addT, q_addL, q_sub, q_mul, q_mulT, q_imul, q_iadd, q_iaddS, q_fdiv, q_mod, q_pow, q_lsh, q_rsh, q_band, q_lt, q_le, q_gt, q_ge, q_eqI, q_neI, q_isB, q_isN, q_isnB, q_isnN, q_neg, q_un, q_revL, q_revT, q_ixL, q_ixT, q_iOf, q_oN, q_oS, q_sl, q_sl1, q_sl2, q_slT, q_slL, q_call, q_cb, q_cf, q_lenL, q_lenT, q_intI, q_intB, q_abs, q_tupL, q_tupT, q_listL, q_listT, q_sort, q_all, q_max2, q_min2, q_sumL, q_sumT, q_isi, q_isO, q_iseq, q_itL, q_itT, q_revF, q_lrv, q_r1, q_r2, q_r2', q_gN, q_gT, q_gTL, q_sAn, q_sAc, q_app, q_app1, q_app2, q_put, q_put1, q_put2, q_put3, q_aug, q_unp, q_unp1, q_nxO, q_par, q_parO, q_run, q_outr, q_outn, start0, Option.bind_some, Option.bind_none, Option.map_some, Option.map_none, List.map_cons, List.map_nil, List.length_cons, List.length_nil, List.replicate_succ, List.replicate_zero, List.cons_append, List.nil_append, List.append_nil, List.getElem?_cons_zero, List.getElem?_cons_succ, List.getElem?_nil, List.set_cons_zero, List.set_cons_succ, chkL_of, chkT_of, Nat.zero_le, Nat.reduceLeDiff, Nat.reduceSub, Nat.reduceAdd, Nat.sub_self, Bool.not_false, Bool.not_true, hn, hr]
    | some ns =>
      obtain rfl := iL_some e
      rw [whole_map] at hn
      have hl := (ndD_tup.mp h).1
      rw [List.length_map] at hl
      rw [rowB_ints]
      by_cases hc : 1 ≤ ns.length ∧ ns.length ≤ 6
      · have q : Q_is_row_1 [.cl (.tuple (ns.map .int)), .un] = some (((List.range (ns.length - 1)).map fun k => decide (ns.getD k 0 ≥ ns.getD (k + 1) 0)).map .bool) := by
          rw [List.map_map]
          unfold Q_is_row_1 eLc
          simp -implicitDefEqProofs only [z_bool_none, z_bool_bool, z_bool_int, z_bool_str, z_bool_list, z_bool_tuple, z_int_none, z_int_bool, z_int_int, z_int_str, z_int_list, z_int_tuple, z_tuple_none, z_tuple_bool, z_tuple_int, z_tuple_str, z_tuple_list, z_tuple_tuple, z_list_none, z_list_bool, z_list_int, z_list_str, z_list_list, z_list_tuple, z_str_none, z_str_bool, z_str_int, z_str_str, z_str_list, z_str_tuple, z_dict_none, z_dict_bool, z_dict_int, z_dict_str, z_dict_list, z_dict_tuple, q_seq, q_thn, q_thr, q_thb, q_thc, q_thro, q_if, q_ift, q_iff, q_nil, q_ret, q_retN, q_set, q_setO, q_setC, q_setW, q_frz, q_frzo, q_frzc, q_frzu, q_frzt, q_frzt', q_frzr, q_V, q_C, q_ow, q_Vc, q_Vo, q_Cc, q_Oo, q_K, q_N, q_aC, q_aC1, q_tup, q_lst, q_L, q_b, q_bb, q_kB, q_kNot, q_kAnd, q_kOr, q_kit, q_kif, q_kot, q_kof, q_eAnd, q_eOr, q_eit, q_eif, q_eot, q_eof, q_eNot, q_notO, q_eIf, q_eIt, q_eIff, q_bin, q_bin1, q_ch, q_ch1, q_ch2, q_ch3t, q_ch3f, q_addI, q_addS, q_addT, q_addL, q_sub, q_mul, q_mulT, q_imul, q_iadd, q_iaddS, q_fdiv, q_mod, q_pow, q_lsh, q_rsh, q_band, q_lt, q_le, q_gt, q_ge, q_eqI, q_neI, q_isB, q_isN, q_isnB, q_isnN, q_neg, q_un, q_revL, q_revT, q_ixL, q_ixT, q_iOf, q_oN, q_oS, q_sl, q_sl1, q_sl2, q_slT, q_slL, q_call, q_cb, q_cf, q_lenL, q_lenT, q_intI, q_intB, q_abs, q_tupL, q_tupT, q_listL, q_listT, q_sort, q_all, q_max2, q_min2, q_sumL, q_sumT, q_isi, q_isO, q_iseq, q_itL, q_itT, q_revF, q_lrv, q_r1, q_r2, q_r2', q_gN, q_gT, q_gTL, q_sAn, q_sAc, q_app, q_app1, q_app2, q_put, q_put1, q_put2, q_put3, q_aug, q_unp, q_unp1, q_nxO, q_par, q_parO, q_run, q_outr, q_outn, start0, Option.bind_some, Option.bind_none, Option.map_some, Option.map_none, List.map_cons, List.map_nil, List.length_cons, List.length_nil, List.replicate_succ, List.replicate_zero, List.cons_append, List.nil_append, List.append_nil, List.getElem?_cons_zero, List.getElem?_cons_succ, List.getElem?_nil, List.set_cons_zero, List.set_cons_succ, chkL_of, chkT_of, Nat.zero_le, Nat.reduceLeDiff, Nat.reduceSub, Nat.reduceAdd, Nat.sub_self, Bool.not_false, Bool.not_true, List.length_map, rngD_of (m := 0) (n := (ns.length : Int) - 1) (by omega) (by omega) (by omega) (by omega), Int.sub_zero, show ((ns.length : Int) - 1).toNat = ns.length - 1 by omega]
          rw [chkL_of (by rw [rangeD_length]; omega), Option.bind_some]
          unfold rangeD
          refine lcD_map (List.range (ns.length - 1)) fun k hk => ?_
          have hk := List.mem_range.mp hk
          unfold lcT
          rw [Int.zero_add]
          simp only [wipeE, List.set_cons_zero, List.set_cons_succ]
          simp -implicitDefEqProofs only [z_bool_none, z_bool_bool, z_bool_int, z_bool_str, z_bool_list, z_bool_tuple, z_int_none, z_int_bool, z_int_int, z_int_str, z_int_list, z_int_tuple, z_tuple_none, z_tuple_bool, z_tuple_int, z_tuple_str, z_tuple_list, z_tuple_tuple, z_list_none, z_list_bool, z_list_int, z_list_str, z_list_list, z_list_tuple, z_str_none, z_str_bool, z_str_int, z_str_str, z_str_list, z_str_tuple, z_dict_none, z_dict_bool, z_dict_int, z_dict_str, z_dict_list, z_dict_tuple, q_seq, q_thn, q_thr, q_thb, q_thc, q_thro, q_if, q_ift, q_iff, q_nil, q_ret, q_retN, q_set, q_setO, q_setC, q_setW, q_frz, q_frzo, q_frzc, q_frzu, q_frzt, q_frzt', q_frzr, q_V, q_C, q_ow, q_Vc, q_Vo, q_Cc, q_Oo, q_K, q_N, q_aC, q_aC1, q_tup, q_lst, q_L, q_b, q_bb, q_kB, q_kNot, q_kAnd, q_kOr, q_kit, q_kif, q_kot, q_kof, q_eAnd, q_eOr, q_eit, q_eif, q_eot, q_eof, q_eNot, q_notO, q_eIf, q_eIt, q_eIff, q_bin, q_bin1, q_ch, q_ch1, q_ch2, q_ch3t, q_ch3f, q_addI, q_addS, q_addT, q_addL, q_sub, q_mul, q_mulT, q_imul, q_iadd, q_iaddS, q_fdiv, q_mod, q_pow, q_lsh, q_rsh, q_band, q_lt, q_le, q_gt, q_ge, q_eqI, q_neI, q_isB, q_isN, q_isnB, q_isnN, q_neg, q_un, q_revL, q_revT, q_ixL, q_ixT, q_iOf, q_oN, q_oS, q_sl, q_sl1, q_sl2, q_slT, q_slL, q_call, q_cb, q_cf, q_lenL, q_lenT, q_intI, q_intB, q_abs, q_tupL, q_tupT, q_listL, q_listT, q_sort, q_all, q_max2, q_min2, q_sumL, q_sumT, q_isi, q_isO, q_iseq, q_itL, q_itT, q_revF, q_lrv, q_r1, q_r2, q_r2', q_gN, q_gT, q_gTL, q_sAn, q_sAc, q_app, q_app1, q_app2, q_put, q_put1, q_put2, q_put3, q_aug, q_unp, q_unp1, q_nxO, q_par, q_parO, q_run, q_outr, q_outn, start0, Option.bind_some, Option.bind_none, Option.map_some, Option.map_none, List.map_cons, List.map_nil, List.length_cons, List.length_nil, List.replicate_succ, List.replicate_zero, List.cons_append, List.nil_append, List.append_nil, List.getElem?_cons_zero, List.getElem?_cons_succ, List.getElem?_nil, List.set_cons_zero, List.set_cons_succ, chkL_of, chkT_of, Nat.zero_le, Nat.reduceLeDiff, Nat.reduceSub, Nat.reduceAdd, Nat.sub_self, Bool.not_false, Bool.not_true, atI_getD (show k < ns.length by omega), show ((k : Int) + 1) = ((k + 1 : Nat) : Int) by omega, atI_getD (show k + 1 < ns.length by omega)]
          rfl
        simp -implicitDefEqProofs only [z_bool_none, z_bool_bool, z_bool_int, z_bool_str, z_bool_list, z_bool_tuple, z_int_none, z_int_bool, z_int_int, z_int_str, z_int_list, z_int_tuple, z_tuple_none, z_tuple_bool, z_tuple_int, z_tuple_str, z_tuple_list, z_tuple_tuple, z_list_none, z_list_bool, z_list_int, z_list_str, z_list_list, z_list_tuple, z_str_none, z_str_bool, z_str_int, z_str_str, z_str_list, z_str_tuple, z_dict_none, z_dict_bool, z_dict_int, z_dict_str, z_dict_list, z_dict_tuple, q_seq, q_thn, q_thr, q_thb, q_thc, q_thro, q_if, q_ift, q_iff, q_nil, q_ret, q_retN, q_set, q_setO, q_setC, q_setW, q_frz, q_frzo, q_frzc, q_frzu, q_frzt, q_frzt', q_frzr, q_V, q_C, q_ow, q_Vc, q_Vo, q_Cc, q_Oo, q_K, q_N, q_aC, q_aC1, q_tup, q_lst, q_L, q_b, q_bb, q_kB, q_kNot, q_kAnd, q_kOr, q_kit, q_kif, q_kot, q_kof, q_eAnd, q_eOr, q_eit, q_eif, q_eot, q_eof, q_eNot, q_notO, q_eIf, q_eIt, q_eIff, q_bin, q_bin1, q_ch, q_ch1, q_ch2, q_ch3t, q_ch3f, q_addI, q_addS, q_addT, q_addL, q_sub, q_mul, q_mulT, q_imul, q_iadd, q_iaddS, q_fdiv, q_mod, q_pow, q_lsh, q_rsh, q_band, q_lt, q_le, q_gt, q_ge, q_eqI, q_neI, q_isB, q_isN, q_isnB, q_isnN, q_neg, q_un, q_revL, q_revT, q_ixL, q_ixT, q_iOf, q_oN, q_oS, q_sl, q_sl1, q_sl2, q_slT, q_slL, q_call, q_cb, q_cf, q_lenL, q_lenT, q_intI, q_intB, q_abs, q_tupL, q_tupT, q_listL, q_listT, q_sort, q_all, q_max2, q_min2, q_sumL, q_sumT, q_isi, q_isO, q_iseq, q_itL, q_itT, q_revF, q_lrv, q_r1, q_r2, q_r2', q_gN, q_gT, q_gTL, q_sAn, q_sAc, q_app, q_app1, q_app2, q_put, q_put1, q_put2, q_put3, q_aug, q_unp, q_unp1, q_nxO, q_par, q_parO, q_run, q_outr, q_outn, start0, Option.bind_some, Option.bind_none, Option.map_some, Option.map_none, List.map_cons, List.map_nil, List.length_cons, List.length_nil, List.replicate_succ, List.replicate_zero, List.cons_append, List.nil_append, List.append_nil, List.getElem?_cons_zero, List.getElem?_cons_succ, List.getElem?_nil, List.set_cons_zero, List.set_cons_succ, chkL_of, chkT_of, Nat.zero_le, Nat.reduceLeDiff, Nat.reduceSub, Nat.reduceAdd, Nat.sub_self, Bool.not_false, Bool.not_true, hn, List.length_map, decide_eq_true (show (1 : Int) ≤ ns.length by omega), decide_eq_true (show (ns.length : Int) ≤ 6 by omega), q, bL_map, fallB_all, decide_eq_true hc, Bool.true_and]
      · rw [decide_eq_false hc, Bool.false_and]
        by_cases h1 : (1 : Int) ≤ ns.length
        · simp -implicitDefEqProofs only [z_bool_none, z_bool_bool, z_bool_int, z_bool_str, z_bool_list, z_bool_tuple, z_int_none, z_int_bool, z_int_int, z_int_str, z_int_list, z_int_tuple, z_tuple_none, z_tuple_bool, z_tuple_int, z_tuple_str, z_tuple_list, z_tuple_tuple, z_list_none, z_list_bool, z_list_int, z_list_str, z_list_list, z_list_tuple, z_str_none, z_str_bool, z_str_int, z_str_str, z_str_list, z_str_tuple, z_dict_none, z_dict_bool, z_dict_int, z_dict_str, z_dict_list, z_dict_tuple, q_seq, q_thn, q_thr, q_thb, q_thc, q_thro, q_if, q_ift, q_iff, q_nil, q_ret, q_retN, q_set, q_setO, q_setC, q_setW, q_frz, q_frzo, q_frzc, q_frzu, q_frzt, q_frzt', q_frzr, q_V, q_C, q_ow, q_Vc, q_Vo, q_Cc, q_Oo, q_K, q_N, q_aC, q_aC1, q_tup, q_lst, q_L, q_b, q_bb, q_kB, q_kNot, q_kAnd, q_kOr, q_kit, q_kif, q_kot, q_kof, q_eAnd, q_eOr, q_eit, q_eif, q_eot, q_eof, q_eNot, q_notO, q_eIf, q_eIt, q_eIff, q_bin, q_bin1, q_ch, q_ch1, q_ch2, q_ch3t, q_ch3f, q_addI, q_addS, q_addT, q_addL, q_sub, q_mul, q_mulT, q_imul, q_iadd, q_iaddS, q_fdiv, q_mod, q_pow, q_lsh, q_rsh, q_band, q_lt, q_le, q_gt, q_ge, q_eqI, q_neI, q_isB, q_isN, q_isnB, q_isnN, q_neg, q_un, q_revL, q_revT, q_ixL, q_ixT, q_iOf, q_oN, q_oS, q_sl, q_sl1, q_sl2, q_slT, q_slL, q_call, q_cb, q_cf, q_lenL, q_lenT, q_intI, q_intB, q_abs, q_tupL, q_tupT, q_listL, q_listT, q_sort, q_all, q_max2, q_min2, q_sumL, q_sumT, q_isi, q_isO, q_iseq, q_itL, q_itT, q_revF, q_lrv, q_r1, q_r2, q_r2', q_gN, q_gT, q_gTL, q_sAn, q_sAc, q_app, q_app1, q_app2, q_put, q_put1, q_put2, q_put3, q_aug, q_unp, q_unp1, q_nxO, q_par, q_parO, q_run, q_outr, q_outn, start0, Option.bind_some, Option.bind_none, Option.map_some, Option.map_none, List.map_cons, List.map_nil, List.length_cons, List.length_nil, List.replicate_succ, List.replicate_zero, List.cons_append, List.nil_append, List.append_nil, List.getElem?_cons_zero, List.getElem?_cons_succ, List.getElem?_nil, List.set_cons_zero, List.set_cons_succ, chkL_of, chkT_of, Nat.zero_le, Nat.reduceLeDiff, Nat.reduceSub, Nat.reduceAdd, Nat.sub_self, Bool.not_false, Bool.not_true, hn, List.length_map, decide_eq_true h1, decide_eq_false (show ¬ (ns.length : Int) ≤ 6 by omega)]
        · simp -implicitDefEqProofs only [z_bool_none, z_bool_bool, z_bool_int, z_bool_str, z_bool_list, z_bool_tuple, z_int_none, z_int_bool, z_int_int, z_int_str, z_int_list, z_int_tuple, z_tuple_none, z_tuple_bool, z_tuple_int, z_tuple_str, z_tuple_list, z_tuple_tuple, z_list_none, z_list_bool, z_list_int, z_list_str, z_list_list, z_list_tuple, z_str_none, z_str_bool, z_str_int, z_str_str, z_str_list, z_str_tuple, z_dict_none, z_dict_bool, z_dict_int, z_dict_str, z_dict_list, z_dict_tuple, q_seq, q_thn, q_thr, q_thb, q_thc, q_thro, q_if, q_ift, q_iff, q_nil, q_ret, q_retN, q_set, q_setO, q_setC, q_setW, q_frz, q_frzo, q_frzc, q_frzu, q_frzt, q_frzt', q_frzr, q_V, q_C, q_ow, q_Vc, q_Vo, q_Cc, q_Oo, q_K, q_N, q_aC, q_aC1, q_tup, q_lst, q_L, q_b, q_bb, q_kB, q_kNot, q_kAnd, q_kOr, q_kit, q_kif, q_kot, q_kof, q_eAnd, q_eOr, q_eit, q_eif, q_eot, q_eof, q_eNot, q_notO, q_eIf, q_eIt, q_eIff, q_bin, q_bin1, q_ch, q_ch1, q_ch2, q_ch3t, q_ch3f, q_addI, q_addS, q_addT, q_addL, q_sub, q_mul, q_mulT, q_imul, q_iadd, q_iaddS, q_fdiv, q_mod, q_pow, q_lsh, q_rsh, q_band, q_lt, q_le, q_gt, q_ge, q_eqI, q_neI, q_isB, q_isN, q_isnB, q_isnN, q_neg, q_un, q_revL, q_revT, q_ixL, q_ixT, q_iOf, q_oN, q_oS, q_sl, q_sl1, q_sl2, q_slT, q_slL, q_call, q_cb, q_cf, q_lenL, q_lenT, q_intI, q_intB, q_abs, q_tupL, q_tupT, q_listL, q_listT, q_sort, q_all, q_max2, q_min2, q_sumL, q_sumT, q_isi, q_isO, q_iseq, q_itL, q_itT, q_revF, q_lrv, q_r1, q_r2, q_r2', q_gN, q_gT, q_gTL, q_sAn, q_sAc, q_app, q_app1, q_app2, q_put, q_put1, q_put2, q_put3, q_aug, q_unp, q_unp1, q_nxO, q_par, q_parO, q_run, q_outr, q_outn, start0, Option.bind_some, Option.bind_none, Option.map_some, Option.map_none, List.map_cons, List.map_nil, List.length_cons, List.length_nil, List.replicate_succ, List.replicate_zero, List.cons_append, List.nil_append, List.append_nil, List.getElem?_cons_zero, List.getElem?_cons_succ, List.getElem?_nil, List.set_cons_zero, List.set_cons_succ, chkL_of, chkT_of, Nat.zero_le, Nat.reduceLeDiff, Nat.reduceSub, Nat.reduceAdd, Nat.sub_self, Bool.not_false, Bool.not_true, hn, List.length_map, decide_eq_false h1]
  | _ =>
    have hn := is_numbers_n h (fun ds e => by cases e)
    simp -implicitDefEqProofs only [z_bool_none, z_bool_bool, z_bool_int, z_bool_str, z_bool_list, z_bool_tuple, z_int_none, z_int_bool, z_int_int, z_int_str, z_int_list, z_int_tuple, z_tuple_none, z_tuple_bool, z_tuple_int, z_tuple_str, z_tuple_list, z_tuple_tuple, z_list_none, z_list_bool, z_list_int, z_list_str, z_list_list, z_list_tuple, z_str_none, z_str_bool, z_str_int, z_str_str, z_str_list, z_str_tuple, z_dict_none, z_dict_bool, z_dict_int, z_dict_str, z_dict_list, z_dict_tuple, q_seq, q_thn, q_thr, q_thb, q_thc, q_thro, q_if, q_ift, q_iff, q_nil, q_ret, q_retN, q_set, q_setO, q_setC, q_setW, q_frz, q_frzo, q_frzc, q_frzu, q_frzt, q_frzt', q_frzr, q_V, q_C, q_ow, q_Vc, q_Vo, q_Cc, q_Oo, q_K, q_N, q_aC, q_aC1, q_tup, q_lst, q_L, q_b, q_bb, q_kB, q_kNot, q_kAnd, q_kOr, q_kit, q_kif, q_kot, q_kof, q_eAnd, q_eOr, q_eit, q_eif, q_eot, q_eof, q_eNot, q_notO, q_eIf, q_eIt, q_eIff, q_bin, q_bin1, q_ch, q_ch1, q_ch2, q_ch3t, q_ch3f, q_addI, q_addS, q_addT, q_addL, q_sub, q_mul, q_mulT, q_imul, q_iadd, q_iaddS, q_fdiv, q_mod, q_pow, q_lsh, q_rsh, q_band, q_lt, q_le, q_gt, q_ge, q_eqI, q_neI, q_isB, q_isN, q_isnB, q_isnN, q_neg, q_un, q_revL, q_revT, q_ixL, q_ixT, q_iOf, q_oN, q_oS, q_sl, q_sl1, q_sl2, q_slT, q_slL, q_call, q_cb, q_cf, q_lenL, q_lenT, q_intI, q_intB, q_abs, q_tupL, q_tupT, q_listL, q_listT, q_sort, q_all, q_max2, q_min2, q_sumL, q_sumT, q_isi, q_isO, q_iseq, q_itL, q_itT, q_revF, q_lrv, q_r1, q_r2, q_r2', q_gN, q_gT, q_gTL, q_sAn, q_sAc, q_app, q_app1, q_app2, q_put, q_put1, q_put2, q_put3, q_aug, q_unp, q_unp1, q_nxO, q_par, q_parO, q_run, q_outr, q_outn, start0, Option.bind_some, Option.bind_none, Option.map_some, Option.map_none, List.map_cons, List.map_nil, List.length_cons, List.length_nil, List.replicate_succ, List.replicate_zero, List.cons_append, List.nil_append, List.append_nil, List.getElem?_cons_zero, List.getElem?_cons_succ, List.getElem?_nil, List.set_cons_zero, List.set_cons_succ, chkL_of, chkT_of, Nat.zero_le, Nat.reduceLeDiff, Nat.reduceSub, Nat.reduceAdd, Nat.sub_self, Bool.not_false, Bool.not_true, hn]
    rfl

theorem ok_is_row {f : Addr} {fd : FuncData} {k : Nat} (B : Bt mg) {t_MOST_ENTRIES : Tok} (k_MOST_ENTRIES : mg "MOST_ENTRIES" = some (.int 6 t_MOST_ENTRIES)) (D : Fun K "is_row" "is_row" s_is_row f fd) (C_is_numbers : Cl P w K mg base k "is_numbers" 1 F_is_numbers) :
    FnOk P w K mg base CX0 (k + 1) f fd ["value"] (spD K ["value"].length (runD N_is_row.length T_is_row)) := by
  have nd := sc_is_row.nd
  refine fnD D sc_is_row fun cdv A outer s H E hr => ?_
  exact (dss_cons (ds_if (DW.t (dw_or (dt_not (dt_val (de_call (C_is_numbers.fc hr (Nat.le_refl _)) (da_cons (dc 0) da_nil)).s)) (dw_or1 (dt_not (dt_chain o_le o_le dint.s (de_cb c_len B.len (das_cons (dv 0) das_nil)).s (DE.s (dglob (by exact rfl) k_MOST_ENTRIES (by exact ⟨_, rfl⟩) (fun _ => .int _))))))))
  (dss_one (ds_ret dbool))
  dss_nil)
  (dss_one (ds_ret (de_cb (c_all rfl) B.all (das_cons (df_lc ([("k", 1)] : List (Str × Nat)) rfl nd (di_range1 B.range (de_bin o_sub (de_cb c_len B.len (das_cons (dv 0) das_nil)).s dint.s).s) (blkOk_by (N := N_is_row) (sc := (defScope s_is_row)) (scope := mkS [(".0", .local), ("k", .local), ("value", .free)]) (by decide +kernel)) (dgr_name 1) (fun _ _ _ _ _ => dg_name 1 nd) (fun _ _ _ _ _ => dts_nil) (fun _ _ _ _ _ => (de_cmp o_ge (de_ix (dv 0) (dv 1)).s (de_ix (dv 0) (de_bin o_add (dv 1) dint.s).s).s))).s das_nil)))))

/-! turned -/
abbrev s_turned : Stmt := topS 8
abbrev N_turned : List Str := ["row", "entry"]
theorem sc_turned : FnScope N_turned ["row"] (defScope s_turned) := ⟨rfl, rfl, rfl, by decide +kernel, rfl, by decide +kernel, by decide +kernel⟩
def Q_turned_1 : En → Option (List PyData) := eLc (iSeq (eUn dRev (eV 0))) [1] (gN 1) (fun _ => some true) (eUn dNeg (eV 1))
def T_turned : En → Option Ou :=
  (sRet (eCb dTup (aC (eL Q_turned_1) aN)))

def F_turned : List PyData → Option PyData := runD N_turned.length T_turned
theorem fix_turned : ∀ ds d, ds.length = 1 → F_turned ds = some d → runD N_turned.length T_turned ds = some d := fun _ _ _ h => h

theorem turned_e {ns : List Int} (h : ns.length ≤ 100000) : F_turned [.tuple (ns.map .int)] = some (.tuple ((ns.reverse.map (- ·)).map .int)) := by
  have q : Q_turned_1 [.cl (.tuple (ns.map .int)), .un] = some (ns.reverse.map fun x => PyData.int (-x)) := by
    unfold Q_turned_1 eLc
    simp -implicitDefEqProofs only [z_bool_none, z_bool_bool, z_bool_int, z_bool_str, z_bool_list, z_bool_tuple, z_int_none, z_int_bool, z_int_int, z_int_str, z_int_list, z_int_tuple, z_tuple_none, z_tuple_bool, z_tuple_int, z_tuple_str, z_tuple_list, z_tuple_tuple, z_list_none, z_list_bool, z_list_int, z_list_str, z_list_list, z_list_tuple, z_str_none, z_str_bool, z_str_int, z_str_str, z_str_list, z_str_tuple, z_dict_none, z_dict_bool, z_dict_int, z_dict_str, z_dict_list, z_dict_tuple, q_seq, q_thn, q_thr, q_thb, q_thc, q_thro, q_if, q_ift, q_iff, q_nil, q_ret, q_retN, q_set, q_setO, q_setC, q_setW, q_frz, q_frzo, q_frzc, q_frzu, q_frzt, q_frzt', q_frzr, q_V, q_C, q_ow, q_Vc, q_Vo, q_Cc, q_Oo, q_K, q_N, q_aC, q_aC1, q_tup, q_lst, q_L, q_b, q_bb, q_kB, q_kNot, q_kAnd, q_kOr, q_kit, q_kif, q_kot, q_kof, q_eAnd, q_eOr, q_eit, q_eif, q_eot, q_eof, q_eNot, q_notO, q_eIf, q_eIt, q_eIff, q_bin, q_bin1, q_ch, q_ch1, q_ch2, q_ch3t, q_ch3f, q_addI, q_addS, q_addT, q_addL, q_sub, q_mul, q_mulT, q_imul, q_iadd, q_iaddS, q_fdiv, q_mod, q_pow, q_lsh, q_rsh, q_band, q_lt, q_le, q_gt, q_ge, q_eqI, q_neI, q_isB, q_isN, q_isnB, q_isnN, q_neg, q_un, q_revL, q_revT, q_ixL, q_ixT, q_iOf, q_oN, q_oS, q_sl, q_sl1, q_sl2, q_slT, q_slL, q_call, q_cb, q_cf, q_lenL, q_lenT, q_intI, q_intB, q_abs, q_tupL, q_tupT, q_listL, q_listT, q_sort, q_all, q_max2, q_min2, q_sumL, q_sumT, q_isi, q_isO, q_iseq, q_itL, q_itT, q_revF, q_lrv, q_r1, q_r2, q_r2', q_gN, q_gT, q_gTL, q_sAn, q_sAc, q_app, q_app1, q_app2, q_put, q_put1, q_put2, q_put3, q_aug, q_unp, q_unp1, q_nxO, q_par, q_parO, q_run, q_outr, q_outn, start0, Option.bind_some, Option.bind_none, Option.map_some, Option.map_none, List.map_cons, List.map_nil, List.length_cons, List.length_nil, List.replicate_succ, List.replicate_zero, List.cons_append, List.nil_append, List.append_nil, List.getElem?_cons_zero, List.getElem?_cons_succ, List.getElem?_nil, List.set_cons_zero, List.set_cons_succ, chkL_of, chkT_of, Nat.zero_le, Nat.reduceLeDiff, Nat.reduceSub, Nat.reduceAdd, Nat.sub_self, Bool.not_false, Bool.not_true]
    rw [chkL_of (by rw [List.length_reverse, List.length_map]; omega), Option.bind_some, ← List.map_reverse]
    refine lcD_map ns.reverse fun k hk => ?_
    unfold lcT
    simp only [wipeE, List.set_cons_zero, List.set_cons_succ]
    simp -implicitDefEqProofs only [z_bool_none, z_bool_bool, z_bool_int, z_bool_str, z_bool_list, z_bool_tuple, z_int_none, z_int_bool, z_int_int, z_int_str, z_int_list, z_int_tuple, z_tuple_none, z_tuple_bool, z_tuple_int, z_tuple_str, z_tuple_list, z_tuple_tuple, z_list_none, z_list_bool, z_list_int, z_list_str, z_list_list, z_list_tuple, z_str_none, z_str_bool, z_str_int, z_str_str, z_str_list, z_str_tuple, z_dict_none, z_dict_bool, z_dict_int, z_dict_str, z_dict_list, z_dict_tuple, q_seq, q_thn, q_thr, q_thb, q_thc, q_thro, q_if, q_ift, q_iff, q_nil, q_ret, q_retN, q_set, q_setO, q_setC, q_setW, q_frz, q_frzo, q_frzc, q_frzu, q_frzt, q_frzt', q_frzr, q_V, q_C, q_ow, q_Vc, q_Vo, q_Cc, q_Oo, q_K, q_N, q_aC, q_aC1, q_tup, q_lst, q_L, q_b, q_bb, q_kB, q_kNot, q_kAnd, q_kOr, q_kit, q_kif, q_kot, q_kof, q_eAnd, q_eOr, q_eit, q_eif, q_eot, q_eof, q_eNot, q_notO, q_eIf, q_eIt, q_eIff, q_bin, q_bin1, q_ch, q_ch1, q_ch2, q_ch3t, q_ch3f, q_addI, q_addS, q_addT, q_addL, q_sub, q_mul, q_mulT, q_imul, q_iadd, q_iaddS, q_fdiv, q_mod, q_pow, q_lsh, q_rsh, q_band, q_lt, q_le, q_gt, q_ge, q_eqI, q_neI, q_isB, q_isN, q_isnB, q_isnN, q_neg, q_un, q_revL, q_revT, q_ixL, q_ixT, q_iOf, q_oN, q_oS, q_sl, q_sl1, q_sl2, q_slT, q_slL, q_call, q_cb, q_cf, q_lenL, q_lenT, q_intI, q_intB, q_abs, q_tupL, q_tupT, q_listL, q_listT, q_sort, q_all, q_max2, q_min2, q_sumL, q_sumT, q_isi, q_isO, q_iseq, q_itL, q_itT, q_revF, q_lrv, q_r1, q_r2, q_r2', q_gN, q_gT, q_gTL, q_sAn, q_sAc, q_app, q_app1, q_app2, q_put, q_put1, q_put2, q_put3, q_aug, q_unp, q_unp1, q_nxO, q_par, q_parO, q_run, q_outr, q_outn, start0, Option.bind_some, Option.bind_none, Option.map_some, Option.map_none, List.map_cons, List.map_nil, List.length_cons, List.length_nil, List.replicate_succ, List.replicate_zero, List.cons_append, List.nil_append, List.append_nil, List.getElem?_cons_zero, List.getElem?_cons_succ, List.getElem?_nil, List.set_cons_zero, List.set_cons_succ, chkL_of, chkT_of, Nat.zero_le, Nat.reduceLeDiff, Nat.reduceSub, Nat.reduceAdd, Nat.sub_self, Bool.not_false, Bool.not_true]
    rfl
  unfold F_turned T_turned
  simp -implicitDefEqProofs only [z_bool_none, z_bool_bool, z_bool_int, z_bool_str, z_bool_list, z_bool_tuple, z_int_none, z_int_bool, z_int_int, z_int_str, z_int_list, z_int_tuple, z_tuple_none, z_tuple_bool, z_tuple_int, z_tuple_str, z_tuple_list, z_tuple_tuple, z_list_none, z_list_bool, z_list_int, z_list_str, z_list_list, z_list_tuple, z_str_none, z_str_bool, z_str_int, z_str_str, z_str_list, z_str_tuple, z_dict_none, z_dict_bool, z_dict_int, z_dict_str, z_dict_list, z_dict_tuple, q_seq, q_thn, q_thr, q_thb, q_thc, q_thro, q_if, q_ift, q_iff, q_nil, q_ret, q_retN, q_set, q_setO, q_setC, q_setW, q_frz, q_frzo, q_frzc, q_frzu, q_frzt, q_frzt', q_frzr, q_V, q_C, q_ow, q_Vc, q_Vo, q_Cc, q_Oo, q_K, q_N, q_aC, q_aC1, q_tup, q_lst, q_L, q_b, q_bb, q_kB, q_kNot, q_kAnd, q_kOr, q_kit, q_kif, q_kot, q_kof, q_eAnd, q_eOr, q_eit, q_eif, q_eot, q_eof, q_eNot, q_notO, q_eIf, q_eIt, q_eIff, q_bin, q_bin1, q_ch, q_ch1, q_ch2, q_ch3t, q_ch3f, q_addI, q_addS, q_addT, q_addL, q_sub, q_mul, q_mulT, q_imul, q_iadd, q_iaddS, q_fdiv, q_mod, q_pow, q_lsh, q_rsh, q_band, q_lt, q_le, q_gt, q_ge, q_eqI, q_neI, q_isB, q_isN, q_isnB, q_isnN, q_neg, q_un, q_revL, q_revT, q_ixL, q_ixT, q_iOf, q_oN, q_oS, q_sl, q_sl1, q_sl2, q_slT, q_slL, q_call, q_cb, q_cf, q_lenL, q_lenT, q_intI, q_intB, q_abs, q_tupL, q_tupT, q_listL, q_listT, q_sort, q_all, q_max2, q_min2, q_sumL, q_sumT, q_isi, q_isO, q_iseq, q_itL, q_itT, q_revF, q_lrv, q_r1, q_r2, q_r2', q_gN, q_gT, q_gTL, q_sAn, q_sAc, q_app, q_app1, q_app2, q_put, q_put1, q_put2, q_put3, q_aug, q_unp, q_unp1, q_nxO, q_par, q_parO, q_run, q_outr, q_outn, start0, Option.bind_some, Option.bind_none, Option.map_some, Option.map_none, List.map_cons, List.map_nil, List.length_cons, List.length_nil, List.replicate_succ, List.replicate_zero, List.cons_append, List.nil_append, List.append_nil, List.getElem?_cons_zero, List.getElem?_cons_succ, List.getElem?_nil, List.set_cons_zero, List.set_cons_succ, chkL_of, chkT_of, Nat.zero_le, Nat.reduceLeDiff, Nat.reduceSub, Nat.reduceAdd, Nat.sub_self, Bool.not_false, Bool.not_true, q]
  rw [List.map_map]
  rfl

theorem ok_turned {f : Addr} {fd : FuncData} {k : Nat} (B : Bt mg) (D : Fun K "turned" "turned" s_turned f fd) :
    FnOk P w K mg base CX0 (k + 1) f fd ["row"] (spD K ["row"].length (runD N_turned.length T_turned)) := by
  have nd := sc_turned.nd
  refine fnD D sc_turned fun cdv A outer s H E hr => ?_
  exact (dss_one (ds_ret (de_ct c_tup B.tuple (das_cons (df_lc ([("entry", 1)] : List (Str × Nat)) rfl nd (di_seq (de_rev (dv 0))) (blkOk_by (N := N_turned) (sc := (defScope s_turned)) (scope := mkS [(".0", .local), ("entry", .local)]) (by decide +kernel)) (dgr_name 1) (fun _ _ _ _ _ => dg_name 1 nd) (fun _ _ _ _ _ => dts_nil) (fun _ _ _ _ _ => (de_neg (dv 1)))).s das_nil))))

/-! plus -/
abbrev s_plus : Stmt := topS 9
abbrev N_plus : List Str := ["a", "b", "k"]
theorem sc_plus : FnScope N_plus ["a", "b"] (defScope s_plus) := ⟨rfl, rfl, rfl, by decide +kernel, rfl, by decide +kernel, by decide +kernel⟩
def Q_plus_1 : En → Option (List PyData) := eLc (iRange1 (eCb dLen (aC (eV 0) aN))) [2] (gN 2) (fun _ => some true) (eBin dAdd (eBin dIx (eV 0) (eV 2)) (eBin dIx (eV 1) (eV 2)))
def T_plus : En → Option Ou :=
  (sRet (eCb dTup (aC (eL Q_plus_1) aN)))

def F_plus : List PyData → Option PyData := runD N_plus.length T_plus
theorem fix_plus : ∀ ds d, ds.length = 2 → F_plus ds = some d → runD N_plus.length T_plus ds = some d := fun _ _ _ h => h

theorem plus_e {a b : List Int} (h : a.length ≤ 100000) (hb : b.length = a.length) : F_plus [.tuple (a.map .int), .tuple (b.map .int)] = some (.tuple (((List.range a.length).map fun k => a.getD k 0 + b.getD k 0).map .int)) := by
  have q : Q_plus_1 [.cl (.tuple (a.map .int)), .cl (.tuple (b.map .int)), .un] = some ((List.range a.length).map fun k => PyData.int (a.getD k 0 + b.getD k 0)) := by
    unfold Q_plus_1 eLc
    simp -implicitDefEqProofs only [z_bool_none, z_bool_bool, z_bool_int, z_bool_str, z_bool_list, z_bool_tuple, z_int_none, z_int_bool, z_int_int, z_int_str, z_int_list, z_int_tuple, z_tuple_none, z_tuple_bool, z_tuple_int, z_tuple_str, z_tuple_list, z_tuple_tuple, z_list_none, z_list_bool, z_list_int, z_list_str, z_list_list, z_list_tuple, z_str_none, z_str_bool, z_str_int, z_str_str, z_str_list, z_str_tuple, z_dict_none, z_dict_bool, z_dict_int, z_dict_str, z_dict_list, z_dict_tuple, q_seq, q_thn, q_thr, q_thb, q_thc, q_thro, q_if, q_ift, q_iff, q_nil, q_ret, q_retN, q_set, q_setO, q_setC, q_setW, q_frz, q_frzo, q_frzc, q_frzu, q_frzt, q_frzt', q_frzr, q_V, q_C, q_ow, q_Vc, q_Vo, q_Cc, q_Oo, q_K, q_N, q_aC, q_aC1, q_tup, q_lst, q_L, q_b, q_bb, q_kB, q_kNot, q_kAnd, q_kOr, q_kit, q_kif, q_kot, q_kof, q_eAnd, q_eOr, q_eit, q_eif, q_eot, q_eof, q_eNot, q_notO, q_eIf, q_eIt, q_eIff, q_bin, q_bin1, q_ch, q_ch1, q_ch2, q_ch3t, q_ch3f, q_addI, q_addS, q_addT, q_addL, q_sub, q_mul, q_mulT, q_imul, q_iadd, q_iaddS, q_fdiv, q_mod, q_pow, q_lsh, q_rsh, q_band, q_lt, q_le, q_gt, q_ge, q_eqI, q_neI, q_isB, q_isN, q_isnB, q_isnN, q_neg, q_un, q_revL, q_revT, q_ixL, q_ixT, q_iOf, q_oN, q_oS, q_sl, q_sl1, q_sl2, q_slT, q_slL, q_call, q_cb, q_cf, q_lenL, q_lenT, q_intI, q_intB, q_abs, q_tupL, q_tupT, q_listL, q_listT, q_sort, q_all, q_max2, q_min2, q_sumL, q_sumT, q_isi, q_isO, q_iseq, q_itL, q_itT, q_revF, q_lrv, q_r1, q_r2, q_r2', q_gN, q_gT, q_gTL, q_sAn, q_sAc, q_app, q_app1, q_app2, q_put, q_put1, q_put2, q_put3, q_aug, q_unp, q_unp1, q_nxO, q_par, q_parO, q_run, q_outr, q_outn, start0, Option.bind_some, Option.bind_none, Option.map_some, Option.map_none, List.map_cons, List.map_nil, List.length_cons, List.length_nil, List.replicate_succ, List.replicate_zero, List.cons_append, List.nil_append, List.append_nil, List.getElem?_cons_zero, List.getElem?_cons_succ, List.getElem?_nil, List.set_cons_zero, List.set_cons_succ, chkL_of, chkT_of, Nat.zero_le, Nat.reduceLeDiff, Nat.reduceSub, Nat.reduceAdd, Nat.sub_self, Bool.not_false, Bool.not_true, List.length_map, rngD_of (m := 0) (n := (a.length : Int)) (by omega) (by omega) (by omega) (by omega), Int.sub_zero, Int.toNat_natCast]
    rw [chkL_of (by rw [rangeD_length]; omega), Option.bind_some]
    unfold rangeD
    refine lcD_map (List.range a.length) fun k hk => ?_
    have hk := List.mem_range.mp hk
    unfold lcT
    rw [Int.zero_add]
    simp only [wipeE, List.set_cons_zero, List.set_cons_succ]
    simp -implicitDefEqProofs only [z_bool_none, z_bool_bool, z_bool_int, z_bool_str, z_bool_list, z_bool_tuple, z_int_none, z_int_bool, z_int_int, z_int_str, z_int_list, z_int_tuple, z_tuple_none, z_tuple_bool, z_tuple_int, z_tuple_str, z_tuple_list, z_tuple_tuple, z_list_none, z_list_bool, z_list_int, z_list_str, z_list_list, z_list_tuple, z_str_none, z_str_bool, z_str_int, z_str_str, z_str_list, z_str_tuple, z_dict_none, z_dict_bool, z_dict_int, z_dict_str, z_dict_list, z_dict_tuple, q_seq, q_thn, q_thr, q_thb, q_thc, q_thro, q_if, q_ift, q_iff, q_nil, q_ret, q_retN, q_set, q_setO, q_setC, q_setW, q_frz, q_frzo, q_frzc, q_frzu, q_frzt, q_frzt', q_frzr, q_V, q_C, q_ow, q_Vc, q_Vo, q_Cc, q_Oo, q_K, q_N, q_aC, q_aC1, q_tup, q_lst, q_L, q_b, q_bb, q_kB, q_kNot, q_kAnd, q_kOr, q_kit, q_kif, q_kot, q_kof, q_eAnd, q_eOr, q_eit, q_eif, q_eot, q_eof, q_eNot, q_notO, q_eIf, q_eIt, q_eIff, q_bin, q_bin1, q_ch, q_ch1, q_ch2, q_ch3t, q_ch3f, q_addI, q_addS, q_addT, q_addL, q_sub, q_mul, q_mulT, q_imul, q_iadd, q_iaddS, q_fdiv, q_mod, q_pow, q_lsh, q_rsh, q_band, q_lt, q_le, q_gt, q_ge, q_eqI, q_neI, q_isB, q_isN, q_isnB, q_isnN, q_neg, q_un, q_revL, q_revT, q_ixL, q_ixT, q_iOf, q_oN, q_oS, q_sl, q_sl1, q_sl2, q_slT, q_slL, q_call, q_cb, q_cf, q_lenL, q_lenT, q_intI, q_intB, q_abs, q_tupL, q_tupT, q_listL, q_listT, q_sort, q_all, q_max2, q_min2, q_sumL, q_sumT, q_isi, q_isO, q_iseq, q_itL, q_itT, q_revF, q_lrv, q_r1, q_r2, q_r2', q_gN, q_gT, q_gTL, q_sAn, q_sAc, q_app, q_app1, q_app2, q_put, q_put1, q_put2, q_put3, q_aug, q_unp, q_unp1, q_nxO, q_par, q_parO, q_run, q_outr, q_outn, start0, Option.bind_some, Option.bind_none, Option.map_some, Option.map_none, List.map_cons, List.map_nil, List.length_cons, List.length_nil, List.replicate_succ, List.replicate_zero, List.cons_append, List.nil_append, List.append_nil, List.getElem?_cons_zero, List.getElem?_cons_succ, List.getElem?_nil, List.set_cons_zero, List.set_cons_succ, chkL_of, chkT_of, Nat.zero_le, Nat.reduceLeDiff, Nat.reduceSub, Nat.reduceAdd, Nat.sub_self, Bool.not_false, Bool.not_true, atI_getD hk, atI_getD (show k < b.length by omega)]
    rfl
  unfold F_plus T_plus
  simp -implicitDefEqProofs only [z_bool_none, z_bool_bool, z_bool_int, z_bool_str, z_bool_list, z_bool_tuple, z_int_none, z_int_bool, z_int_int, z_int_str, z_int_list, z_int_tuple, z_tuple_none, z_tuple_bool, z_tuple_int, z_tuple_str, z_tuple_list, z_tuple_tuple, z_list_none, z_list_bool, z_list_int, z_list_str, z_list_list, z_list_tuple, z_str_none, z_str_bool, z_str_int, z_str_str, z_str_list, z_str_tuple, z_dict_none, z_dict_bool, z_dict_int, z_dict_str, z_dict_list, z_dict_tuple, q_seq, q_thn, q_thr, q_thb, q_thc, q_thro, q_if, q_ift, q_iff, q_nil, q_ret, q_retN, q_set, q_setO, q_setC, q_setW, q_frz, q_frzo, q_frzc, q_frzu, q_frzt, q_frzt', q_frzr, q_V, q_C, q_ow, q_Vc, q_Vo, q_Cc, q_Oo, q_K, q_N, q_aC, q_aC1, q_tup, q_lst, q_L, q_b, q_bb, q_kB, q_kNot, q_kAnd, q_kOr, q_kit, q_kif, q_kot, q_kof, q_eAnd, q_eOr, q_eit, q_eif, q_eot, q_eof, q_eNot, q_notO, q_eIf, q_eIt, q_eIff, q_bin, q_bin1, q_ch, q_ch1, q_ch2, q_ch3t, q_ch3f, q_addI, q_addS, q_addT, q_addL, q_sub, q_mul, q_mulT, q_imul, q_iadd, q_iaddS, q_fdiv, q_mod, q_pow, q_lsh, q_rsh, q_band, q_lt, q_le, q_gt, q_ge, q_eqI, q_neI, q_isB, q_isN, q_isnB, q_isnN, q_neg, q_un, q_revL, q_revT, q_ixL, q_ixT, q_iOf, q_oN, q_oS, q_sl, q_sl1, q_sl2, q_slT, q_slL, q_call, q_cb, q_cf, q_lenL, q_lenT, q_intI, q_intB, q_abs, q_tupL, q_tupT, q_listL, q_listT, q_sort, q_all, q_max2, q_min2, q_sumL, q_sumT, q_isi, q_isO, q_iseq, q_itL, q_itT, q_revF, q_lrv, q_r1, q_r2, q_r2', q_gN, q_gT, q_gTL, q_sAn, q_sAc, q_app, q_app1, q_app2, q_put, q_put1, q_put2, q_put3, q_aug, q_unp, q_unp1, q_nxO, q_par, q_parO, q_run, q_outr, q_outn, start0, Option.bind_some, Option.bind_none, Option.map_some, Option.map_none, List.map_cons, List.map_nil, List.length_cons, List.length_nil, List.replicate_succ, List.replicate_zero, List.cons_append, List.nil_append, List.append_nil, List.getElem?_cons_zero, List.getElem?_cons_succ, List.getElem?_nil, List.set_cons_zero, List.set_cons_succ, chkL_of, chkT_of, Nat.zero_le, Nat.reduceLeDiff, Nat.reduceSub, Nat.reduceAdd, Nat.sub_self, Bool.not_false, Bool.not_true, q]
  rw [List.map_map]
  rfl

theorem ok_plus {f : Addr} {fd : FuncData} {k : Nat} (B : Bt mg) (D : Fun K "plus" "plus" s_plus f fd) :
    FnOk P w K mg base CX0 (k + 1) f fd ["a", "b"] (spD K ["a", "b"].length (runD N_plus.length T_plus)) := by
  have nd := sc_plus.nd
  refine fnD D sc_plus fun cdv A outer s H E hr => ?_
  exact (dss_one (ds_ret (de_ct c_tup B.tuple (das_cons (df_lc ([("k", 2)] : List (Str × Nat)) rfl nd (di_range1 B.range (de_cb c_len B.len (das_cons (dv 0) das_nil)).s) (blkOk_by (N := N_plus) (sc := (defScope s_plus)) (scope := mkS [(".0", .local), ("k", .local), ("a", .free), ("b", .free)]) (by decide +kernel)) (dgr_name 2) (fun _ _ _ _ _ => dg_name 2 nd) (fun _ _ _ _ _ => dts_nil) (fun _ _ _ _ _ => (de_bin o_add (de_ix (dv 0) (dv 2)).s (de_ix (dv 1) (dv 2)).s))).s das_nil))))

/-! over -/
abbrev s_over : Stmt := topS 11
abbrev N_over : List Str := ["a", "b", "k"]
theorem sc_over : FnScope N_over ["a", "b"] (defScope s_over) := ⟨rfl, rfl, rfl, by decide +kernel, rfl, by decide +kernel, by decide +kernel⟩
def Q_over_1 : En → Option (List PyData) := eLc (iRange2 (eK (.int 1)) (eCb dLen (aC (eV 0) aN))) [2] (gN 2) (fun _ => some true) (eBin dGe (eCb dSum (aC (eSl (eV 0) oN (oS (eV 2))) aN)) (eCb dSum (aC (eSl (eV 1) oN (oS (eV 2))) aN)))
def T_over : En → Option Ou :=
  (sRet (eAnd (eBin dEq (eCb dSum (aC (eV 0) aN)) (eCb dSum (aC (eV 1) aN))) (eCb dAll (aC (eL Q_over_1) aN))))

def F_over : List PyData → Option PyData := runD N_over.length T_over
theorem fix_over : ∀ ds d, ds.length = 2 → F_over ds = some d → runD N_over.length T_over ds = some d := fun _ _ _ h => h

theorem over_e {a b : List Int} (h1 : 1 ≤ a.length) (h : a.length ≤ 100000) : F_over [.tuple (a.map .int), .tuple (b.map .int)] = some (.bool (overB a b)) := by
  unfold F_over T_over overB
  cases hs : (a.sum == b.sum) with
  | false => simp -implicitDefEqProofs only [z_bool_none, z_bool_bool, z_bool_int, z_bool_str, z_bool_list, z_bool_tuple, z_int_none, z_int_bool, z_int_int, z_int_str, z_int_list, z_int_tuple, z_tuple_none, z_tuple_bool, z_tuple_int, z_tuple_str, z_tuple_list, z_tuple_tuple, z_list_none, z_list_bool, z_list_int, z_list_str, z_list_list, z_list_tuple, z_str_none, z_str_bool, z_str_int, z_str_str, z_str_list, z_str_tuple, z_dict_none, z_dict_bool, z_dict_int, z_dict_str, z_dict_list, z_dict_tuple, q_seq, q_thn, q_thr, q_thb, q_thc, q_thro, q_if, q_ift, q_iff, q_nil, q_ret, q_retN, q_set, q_setO, q_setC, q_setW, q_frz, q_frzo, q_frzc, q_frzu, q_frzt, q_frzt', q_frzr, q_V, q_C, q_ow, q_Vc, q_Vo, q_Cc, q_Oo, q_K, q_N, q_aC, q_aC1, q_tup, q_lst, q_L, q_b, q_bb, q_kB, q_kNot, q_kAnd, q_kOr, q_kit, q_kif, q_kot, q_kof, q_eAnd, q_eOr, q_eit, q_eif, q_eot, q_eof, q_eNot, q_notO, q_eIf, q_eIt, q_eIff, q_bin, q_bin1, q_ch, q_ch1, q_ch2, q_ch3t, q_ch3f, q_addI, q_addS, q_addT, q_addL, q_sub, q_mul, q_mulT, q_imul, q_iadd, q_iaddS, q_fdiv, q_mod, q_pow, q_lsh, q_rsh, q_band, q_lt, q_le, q_gt, q_ge, q_eqI, q_neI, q_isB, q_isN, q_isnB, q_isnN, q_neg, q_un, q_revL, q_revT, q_ixL, q_ixT, q_iOf, q_oN, q_oS, q_sl, q_sl1, q_sl2, q_slT, q_slL, q_call, q_cb, q_cf, q_lenL, q_lenT, q_intI, q_intB, q_abs, q_tupL, q_tupT, q_listL, q_listT, q_sort, q_all, q_max2, q_min2, q_sumL, q_sumT, q_isi, q_isO, q_iseq, q_itL, q_itT, q_revF, q_lrv, q_r1, q_r2, q_r2', q_gN, q_gT, q_gTL, q_sAn, q_sAc, q_app, q_app1, q_app2, q_put, q_put1, q_put2, q_put3, q_aug, q_unp, q_unp1, q_nxO, q_par, q_parO, q_run, q_outr, q_outn, start0, Option.bind_some, Option.bind_none, Option.map_some, Option.map_none, List.map_cons, List.map_nil, List.length_cons, List.length_nil, List.replicate_succ, List.replicate_zero, List.cons_append, List.nil_append, List.append_nil, List.getElem?_cons_zero, List.getElem?_cons_succ, List.getElem?_nil, List.set_cons_zero, List.set_cons_succ, chkL_of, chkT_of, Nat.zero_le, Nat.reduceLeDiff, Nat.reduceSub, Nat.reduceAdd, Nat.sub_self, Bool.not_false, Bool.not_true, iL_map, hs, bOf, Bool.false_and]
  | true =>
    have q : Q_over_1 [.cl (.tuple (a.map .int)), .cl (.tuple (b.map .int)), .un] = some (((List.range (a.length - 1)).map fun j => decide ((a.take (j + 1)).sum ≥ (b.take (j + 1)).sum)).map .bool) := by
      rw [List.map_map]
      unfold Q_over_1 eLc
      simp -implicitDefEqProofs only [z_bool_none, z_bool_bool, z_bool_int, z_bool_str, z_bool_list, z_bool_tuple, z_int_none, z_int_bool, z_int_int, z_int_str, z_int_list, z_int_tuple, z_tuple_none, z_tuple_bool, z_tuple_int, z_tuple_str, z_tuple_list, z_tuple_tuple, z_list_none, z_list_bool, z_list_int, z_list_str, z_list_list, z_list_tuple, z_str_none, z_str_bool, z_str_int, z_str_str, z_str_list, z_str_tuple, z_dict_none, z_dict_bool, z_dict_int, z_dict_str, z_dict_list, z_dict_tuple, q_seq, q_thn, q_thr, q_thb, q_thc, q_thro, q_if, q_ift, q_iff, q_nil, q_ret, q_retN, q_set, q_setO, q_setC, q_setW, q_frz, q_frzo, q_frzc, q_frzu, q_frzt, q_frzt', q_frzr, q_V, q_C, q_ow, q_Vc, q_Vo, q_Cc, q_Oo, q_K, q_N, q_aC, q_aC1, q_tup, q_lst, q_L, q_b, q_bb, q_kB, q_kNot, q_kAnd, q_kOr, q_kit, q_kif, q_kot, q_kof, q_eAnd, q_eOr, q_eit, q_eif, q_eot, q_eof, q_eNot, q_notO, q_eIf, q_eIt, q_eIff, q_bin, q_bin1, q_ch, q_ch1, q_ch2, q_ch3t, q_ch3f, q_addI, q_addS, q_addT, q_addL, q_sub, q_mul, q_mulT, q_imul, q_iadd, q_iaddS, q_fdiv, q_mod, q_pow, q_lsh, q_rsh, q_band, q_lt, q_le, q_gt, q_ge, q_eqI, q_neI, q_isB, q_isN, q_isnB, q_isnN, q_neg, q_un, q_revL, q_revT, q_ixL, q_ixT, q_iOf, q_oN, q_oS, q_sl, q_sl1, q_sl2, q_slT, q_slL, q_call, q_cb, q_cf, q_lenL, q_lenT, q_intI, q_intB, q_abs, q_tupL, q_tupT, q_listL, q_listT, q_sort, q_all, q_max2, q_min2, q_sumL, q_sumT, q_isi, q_isO, q_iseq, q_itL, q_itT, q_revF, q_lrv, q_r1, q_r2, q_r2', q_gN, q_gT, q_gTL, q_sAn, q_sAc, q_app, q_app1, q_app2, q_put, q_put1, q_put2, q_put3, q_aug, q_unp, q_unp1, q_nxO, q_par, q_parO, q_run, q_outr, q_outn, start0, Option.bind_some, Option.bind_none, Option.map_some, Option.map_none, List.map_cons, List.map_nil, List.length_cons, List.length_nil, List.replicate_succ, List.replicate_zero, List.cons_append, List.nil_append, List.append_nil, List.getElem?_cons_zero, List.getElem?_cons_succ, List.getElem?_nil, List.set_cons_zero, List.set_cons_succ, chkL_of, chkT_of, Nat.zero_le, Nat.reduceLeDiff, Nat.reduceSub, Nat.reduceAdd, Nat.sub_self, Bool.not_false, Bool.not_true, List.length_map, rngD_of (m := 1) (n := (a.length : Int)) (by omega) (by omega) (by omega) (by omega), show ((a.length : Int) - 1).toNat = a.length - 1 by omega]
      rw [chkL_of (by rw [rangeD_length]; omega), Option.bind_some]
      unfold rangeD
      refine lcD_map (List.range (a.length - 1)) fun j hj => ?_
      unfold lcT
      rw [show (1 : Int) + (j : Int) = ((j + 1 : Nat) : Int) by omega]
      simp only [wipeE, List.set_cons_zero, List.set_cons_succ]
      simp -implicitDefEqProofs only [z_bool_none, z_bool_bool, z_bool_int, z_bool_str, z_bool_list, z_bool_tuple, z_int_none, z_int_bool, z_int_int, z_int_str, z_int_list, z_int_tuple, z_tuple_none, z_tuple_bool, z_tuple_int, z_tuple_str, z_tuple_list, z_tuple_tuple, z_list_none, z_list_bool, z_list_int, z_list_str, z_list_list, z_list_tuple, z_str_none, z_str_bool, z_str_int, z_str_str, z_str_list, z_str_tuple, z_dict_none, z_dict_bool, z_dict_int, z_dict_str, z_dict_list, z_dict_tuple, q_seq, q_thn, q_thr, q_thb, q_thc, q_thro, q_if, q_ift, q_iff, q_nil, q_ret, q_retN, q_set, q_setO, q_setC, q_setW, q_frz, q_frzo, q_frzc, q_frzu, q_frzt, q_frzt', q_frzr, q_V, q_C, q_ow, q_Vc, q_Vo, q_Cc, q_Oo, q_K, q_N, q_aC, q_aC1, q_tup, q_lst, q_L, q_b, q_bb, q_kB, q_kNot, q_kAnd, q_kOr, q_kit, q_kif, q_kot, q_kof, q_eAnd, q_eOr, q_eit, q_eif, q_eot, q_eof, q_eNot, q_notO, q_eIf, q_eIt, q_eIff, q_bin, q_bin1, q_ch, q_ch1, q_ch2, q_ch3t, q_ch3f, q_addI, q_addS, q_addT, q_addL, q_sub, q_mul, q_mulT, q_imul, q_iadd, q_iaddS, q_fdiv, q_mod, q_pow, q_lsh, q_rsh, q_band, q_lt, q_le, q_gt, q_ge, q_eqI, q_neI, q_isB, q_isN, q_isnB, q_isnN, q_neg, q_un, q_revL, q_revT, q_ixL, q_ixT, q_iOf, q_oN, q_oS, q_sl, q_sl1, q_sl2, q_slT, q_slL, q_call, q_cb, q_cf, q_lenL, q_lenT, q_intI, q_intB, q_abs, q_tupL, q_tupT, q_listL, q_listT, q_sort, q_all, q_max2, q_min2, q_sumL, q_sumT, q_isi, q_isO, q_iseq, q_itL, q_itT, q_revF, q_lrv, q_r1, q_r2, q_r2', q_gN, q_gT, q_gTL, q_sAn, q_sAc, q_app, q_app1, q_app2, q_put, q_put1, q_put2, q_put3, q_aug, q_unp, q_unp1, q_nxO, q_par, q_parO, q_run, q_outr, q_outn, start0, Option.bind_some, Option.bind_none, Option.map_some, Option.map_none, List.map_cons, List.map_nil, List.length_cons, List.length_nil, List.replicate_succ, List.replicate_zero, List.cons_append, List.nil_append, List.append_nil, List.getElem?_cons_zero, List.getElem?_cons_succ, List.getElem?_nil, List.set_cons_zero, List.set_cons_succ, chkL_of, chkT_of, Nat.zero_le, Nat.reduceLeDiff, Nat.reduceSub, Nat.reduceAdd, Nat.sub_self, Bool.not_false, Bool.not_true, cut_to, ← List.map_take, iL_map]
      rfl
    simp -implicitDefEqProofs only [z_bool_none, z_bool_bool, z_bool_int, z_bool_str, z_bool_list, z_bool_tuple, z_int_none, z_int_bool, z_int_int, z_int_str, z_int_list, z_int_tuple, z_tuple_none, z_tuple_bool, z_tuple_int, z_tuple_str, z_tuple_list, z_tuple_tuple, z_list_none, z_list_bool, z_list_int, z_list_str, z_list_list, z_list_tuple, z_str_none, z_str_bool, z_str_int, z_str_str, z_str_list, z_str_tuple, z_dict_none, z_dict_bool, z_dict_int, z_dict_str, z_dict_list, z_dict_tuple, q_seq, q_thn, q_thr, q_thb, q_thc, q_thro, q_if, q_ift, q_iff, q_nil, q_ret, q_retN, q_set, q_setO, q_setC, q_setW, q_frz, q_frzo, q_frzc, q_frzu, q_frzt, q_frzt', q_frzr, q_V, q_C, q_ow, q_Vc, q_Vo, q_Cc, q_Oo, q_K, q_N, q_aC, q_aC1, q_tup, q_lst, q_L, q_b, q_bb, q_kB, q_kNot, q_kAnd, q_kOr, q_kit, q_kif, q_kot, q_kof, q_eAnd, q_eOr, q_eit, q_eif, q_eot, q_eof, q_eNot, q_notO, q_eIf, q_eIt, q_eIff, q_bin, q_bin1, q_ch, q_ch1, q_ch2, q_ch3t, q_ch3f, q_addI, q_addS, q_addT, q_addL, q_sub, q_mul, q_mulT, q_imul, q_iadd, q_iaddS, q_fdiv, q_mod, q_pow, q_lsh, q_rsh, q_band, q_lt, q_le, q_gt, q_ge, q_eqI, q_neI, q_isB, q_isN, q_isnB, q_isnN, q_neg, q_un, q_revL, q_revT, q_ixL, q_ixT, q_iOf, q_oN, q_oS, q_sl, q_sl1, q_sl2, q_slT, q_slL, q_call, q_cb, q_cf, q_lenL, q_lenT, q_intI, q_intB, q_abs, q_tupL, q_tupT, q_listL, q_listT, q_sort, q_all, q_max2, q_min2, q_sumL, q_sumT, q_isi, q_isO, q_iseq, q_itL, q_itT, q_revF, q_lrv, q_r1, q_r2, q_r2', q_gN, q_gT, q_gTL, q_sAn, q_sAc, q_app, q_app1, q_app2, q_put, q_put1, q_put2, q_put3, q_aug, q_unp, q_unp1, q_nxO, q_par, q_parO, q_run, q_outr, q_outn, start0, Option.bind_some, Option.bind_none, Option.map_some, Option.map_none, List.map_cons, List.map_nil, List.length_cons, List.length_nil, List.replicate_succ, List.replicate_zero, List.cons_append, List.nil_append, List.append_nil, List.getElem?_cons_zero, List.getElem?_cons_succ, List.getElem?_nil, List.set_cons_zero, List.set_cons_succ, chkL_of, chkT_of, Nat.zero_le, Nat.reduceLeDiff, Nat.reduceSub, Nat.reduceAdd, Nat.sub_self, Bool.not_false, Bool.not_true, iL_map, hs, bOf, q, bL_map, Bool.true_and]
    rw [List.all_map]
    rfl

theorem ok_over {f : Addr} {fd : FuncData} {k : Nat} (B : Bt mg) (D : Fun K "over" "over" s_over f fd) :
    FnOk P w K mg base CX0 (k + 1) f fd ["a", "b"] (spD K ["a", "b"].length (runD N_over.length T_over)) := by
  have nd := sc_over.nd
  refine fnD D sc_over fun cdv A outer s H E hr => ?_
  exact (dss_one (ds_ret (de_and (de_cmp (o_eq hr) (de_cb (c_sum rfl) B.sum (das_cons (dv 0) das_nil)).s (de_cb (c_sum rfl) B.sum (das_cons (dv 1) das_nil)).s).s (de_oneE (de_cb (c_all rfl) B.all (das_cons (df_lc ([("k", 2)] : List (Str × Nat)) rfl nd (di_range2 B.range dint.s (de_cb c_len B.len (das_cons (dv 0) das_nil)).s) (blkOk_by (N := N_over) (sc := (defScope s_over)) (scope := mkS [(".0", .local), ("k", .local), ("sum", .globalImplicit), ("a", .free), ("b", .free)]) (by decide +kernel)) (dgr_name 2) (fun _ _ _ _ _ => dg_name 2 nd) (fun _ _ _ _ _ => dts_nil) (fun _ _ _ _ _ => (de_cmp o_ge (de_cb (c_sum rfl) B.sum (das_cons (de_sl (dv 0) do_n (do_s (dv 2))).s das_nil)).s (de_cb (c_sum rfl) B.sum (das_cons (de_sl (dv 1) do_n (do_s (dv 2))).s das_nil)).s))).s das_nil))))))

/-! lowered -/
abbrev s_lowered : Stmt := topS 12
abbrev N_lowered : List Str := ["row", "i", "j", "k"]
theorem sc_lowered : FnScope N_lowered ["row", "i", "j"] (defScope s_lowered) := ⟨rfl, rfl, rfl, by decide +kernel, rfl, by decide +kernel, by decide +kernel⟩
def Q_lowered_1 : En → Option (List PyData) := eLc (iRange1 (eCb dLen (aC (eV 0) aN))) [3] (gN 3) (fun _ => some true) (eBin dAdd (eBin dSub (eBin dIx (eV 0) (eV 3)) (eCb dInt (aC (eBin dEq (eV 3) (eV 1)) aN))) (eCb dInt (aC (eBin dEq (eV 3) (eV 2)) aN)))
def T_lowered : En → Option Ou :=
  (sRet (eCb dTup (aC (eL Q_lowered_1) aN)))

def F_lowered : List PyData → Option PyData := runD N_lowered.length T_lowered
theorem fix_lowered : ∀ ds d, ds.length = 3 → F_lowered ds = some d → runD N_lowered.length T_lowered ds = some d := fun _ _ _ h => h

theorem lowered_e {a : List Int} (h : a.length ≤ 100000) (i j : Nat) : F_lowered [.tuple (a.map .int), .int (i : Nat), .int (j : Nat)] = some (.tuple ((moveI a i j).map .int)) := by
  have q : Q_lowered_1 [.cl (.tuple (a.map .int)), .cl (.int (i : Nat)), .cl (.int (j : Nat)), .un] = some ((moveI a i j).map .int) := by
    unfold Q_lowered_1 eLc moveI
    simp -implicitDefEqProofs only [z_bool_none, z_bool_bool, z_bool_int, z_bool_str, z_bool_list, z_bool_tuple, z_int_none, z_int_bool, z_int_int, z_int_str, z_int_list, z_int_tuple, z_tuple_none, z_tuple_bool, z_tuple_int, z_tuple_str, z_tuple_list, z_tuple_tuple, z_list_none, z_list_bool, z_list_int, z_list_str, z_list_list, z_list_tuple, z_str_none, z_str_bool, z_str_int, z_str_str, z_str_list, z_str_tuple, z_dict_none, z_dict_bool, z_dict_int, z_dict_str, z_dict_list, z_dict_tuple, q_seq, q_thn, q_thr, q_thb, q_thc, q_thro, q_if, q_ift, q_iff, q_nil, q_ret, q_retN, q_set, q_setO, q_setC, q_setW, q_frz, q_frzo, q_frzc, q_frzu, q_frzt, q_frzt', q_frzr, q_V, q_C, q_ow, q_Vc, q_Vo, q_Cc, q_Oo, q_K, q_N, q_aC, q_aC1, q_tup, q_lst, q_L, q_b, q_bb, q_kB, q_kNot, q_kAnd, q_kOr, q_kit, q_kif, q_kot, q_kof, q_eAnd, q_eOr, q_eit, q_eif, q_eot, q_eof, q_eNot, q_notO, q_eIf, q_eIt, q_eIff, q_bin, q_bin1, q_ch, q_ch1, q_ch2, q_ch3t, q_ch3f, q_addI, q_addS, q_addT, q_addL, q_sub, q_mul, q_mulT, q_imul, q_iadd, q_iaddS, q_fdiv, q_mod, q_pow, q_lsh, q_rsh, q_band, q_lt, q_le, q_gt, q_ge, q_eqI, q_neI, q_isB, q_isN, q_isnB, q_isnN, q_neg, q_un, q_revL, q_revT, q_ixL, q_ixT, q_iOf, q_oN, q_oS, q_sl, q_sl1, q_sl2, q_slT, q_slL, q_call, q_cb, q_cf, q_lenL, q_lenT, q_intI, q_intB, q_abs, q_tupL, q_tupT, q_listL, q_listT, q_sort, q_all, q_max2, q_min2, q_sumL, q_sumT, q_isi, q_isO, q_iseq, q_itL, q_itT, q_revF, q_lrv, q_r1, q_r2, q_r2', q_gN, q_gT, q_gTL, q_sAn, q_sAc, q_app, q_app1, q_app2, q_put, q_put1, q_put2, q_put3, q_aug, q_unp, q_unp1, q_nxO, q_par, q_parO, q_run, q_outr, q_outn, start0, Option.bind_some, Option.bind_none, Option.map_some, Option.map_none, List.map_cons, List.map_nil, List.length_cons, List.length_nil, List.replicate_succ, List.replicate_zero, List.cons_append, List.nil_append, List.append_nil, List.getElem?_cons_zero, List.getElem?_cons_succ, List.getElem?_nil, List.set_cons_zero, List.set_cons_succ, chkL_of, chkT_of, Nat.zero_le, Nat.reduceLeDiff, Nat.reduceSub, Nat.reduceAdd, Nat.sub_self, Bool.not_false, Bool.not_true, List.length_map, rngD_of (m := 0) (n := (a.length : Int)) (by omega) (by omega) (by omega) (by omega), Int.sub_zero, Int.toNat_natCast]
    rw [chkL_of (by rw [rangeD_length]; omega), Option.bind_some]
    unfold rangeD
    rw [List.map_map]
    refine lcD_map (List.range a.length) fun k hk => ?_
    have hk := List.mem_range.mp hk
    unfold lcT
    rw [Int.zero_add]
    simp only [wipeE, List.set_cons_zero, List.set_cons_succ]
    simp -implicitDefEqProofs only [z_bool_none, z_bool_bool, z_bool_int, z_bool_str, z_bool_list, z_bool_tuple, z_int_none, z_int_bool, z_int_int, z_int_str, z_int_list, z_int_tuple, z_tuple_none, z_tuple_bool, z_tuple_int, z_tuple_str, z_tuple_list, z_tuple_tuple, z_list_none, z_list_bool, z_list_int, z_list_str, z_list_list, z_list_tuple, z_str_none, z_str_bool, z_str_int, z_str_str, z_str_list, z_str_tuple, z_dict_none, z_dict_bool, z_dict_int, z_dict_str, z_dict_list, z_dict_tuple, q_seq, q_thn, q_thr, q_thb, q_thc, q_thro, q_if, q_ift, q_iff, q_nil, q_ret, q_retN, q_set, q_setO, q_setC, q_setW, q_frz, q_frzo, q_frzc, q_frzu, q_frzt, q_frzt', q_frzr, q_V, q_C, q_ow, q_Vc, q_Vo, q_Cc, q_Oo, q_K, q_N, q_aC, q_aC1, q_tup, q_lst, q_L, q_b, q_bb, q_kB, q_kNot, q_kAnd, q_kOr, q_kit, q_kif, q_kot, q_kof, q_eAnd, q_eOr, q_eit, q_eif, q_eot, q_eof, q_eNot, q_notO, q_eIf, q_eIt, q_eIff, q_bin, q_bin1, q_ch, q_ch1, q_ch2, q_ch3t, q_ch3f, q_addI, q_addS, q_addT, q_addL, q_sub, q_mul, q_mulT, q_imul, q_iadd, q_iaddS, q_fdiv, q_mod, q_pow, q_lsh, q_rsh, q_band, q_lt, q_le, q_gt, q_ge, q_eqI, q_neI, q_isB, q_isN, q_isnB, q_isnN, q_neg, q_un, q_revL, q_revT, q_ixL, q_ixT, q_iOf, q_oN, q_oS, q_sl, q_sl1, q_sl2, q_slT, q_slL, q_call, q_cb, q_cf, q_lenL, q_lenT, q_intI, q_intB, q_abs, q_tupL, q_tupT, q_listL, q_listT, q_sort, q_all, q_max2, q_min2, q_sumL, q_sumT, q_isi, q_isO, q_iseq, q_itL, q_itT, q_revF, q_lrv, q_r1, q_r2, q_r2', q_gN, q_gT, q_gTL, q_sAn, q_sAc, q_app, q_app1, q_app2, q_put, q_put1, q_put2, q_put3, q_aug, q_unp, q_unp1, q_nxO, q_par, q_parO, q_run, q_outr, q_outn, start0, Option.bind_some, Option.bind_none, Option.map_some, Option.map_none, List.map_cons, List.map_nil, List.length_cons, List.length_nil, List.replicate_succ, List.replicate_zero, List.cons_append, List.nil_append, List.append_nil, List.getElem?_cons_zero, List.getElem?_cons_succ, List.getElem?_nil, List.set_cons_zero, List.set_cons_succ, chkL_of, chkT_of, Nat.zero_le, Nat.reduceLeDiff, Nat.reduceSub, Nat.reduceAdd, Nat.sub_self, Bool.not_false, Bool.not_true, atI_getD hk]
    rfl
  unfold F_lowered T_lowered
  simp -implicitDefEqProofs only [z_bool_none, z_bool_bool, z_bool_int, z_bool_str, z_bool_list, z_bool_tuple, z_int_none, z_int_bool, z_int_int, z_int_str, z_int_list, z_int_tuple, z_tuple_none, z_tuple_bool, z_tuple_int, z_tuple_str, z_tuple_list, z_tuple_tuple, z_list_none, z_list_bool, z_list_int, z_list_str, z_list_list, z_list_tuple, z_str_none, z_str_bool, z_str_int, z_str_str, z_str_list, z_str_tuple, z_dict_none, z_dict_bool, z_dict_int, z_dict_str, z_dict_list, z_dict_tuple, q_seq, q_thn, q_thr, q_thb, q_thc, q_thro, q_if, q_ift, q_iff, q_nil, q_ret, q_retN, q_set, q_setO, q_setC, q_setW, q_frz, q_frzo, q_frzc, q_frzu, q_frzt, q_frzt', q_frzr, q_V, q_C, q_ow, q_Vc, q_Vo, q_Cc, q_Oo, q_K, q_N, q_aC, q_aC1, q_tup, q_lst, q_L, q_b, q_bb, q_kB, q_kNot, q_kAnd, q_kOr, q_kit, q_kif, q_kot, q_kof, q_eAnd, q_eOr, q_eit, q_eif, q_eot, q_eof, q_eNot, q_notO, q_eIf, q_eIt, q_eIff, q_bin, q_bin1, q_ch, q_ch1, q_ch2, q_ch3t, q_ch3f, q_addI, q_addS, q_addT, q_addL, q_sub, q_mul, q_mulT, q_imul, q_iadd, q_iaddS, q_fdiv, q_mod, q_pow, q_lsh, q_rsh, q_band, q_lt, q_le, q_gt, q_ge, q_eqI, q_neI, q_isB, q_isN, q_isnB, q_isnN, q_neg, q_un, q_revL, q_revT, q_ixL, q_ixT, q_iOf, q_oN, q_oS, q_sl, q_sl1, q_sl2, q_slT, q_slL, q_call, q_cb, q_cf, q_lenL, q_lenT, q_intI, q_intB, q_abs, q_tupL, q_tupT, q_listL, q_listT, q_sort, q_all, q_max2, q_min2, q_sumL, q_sumT, q_isi, q_isO, q_iseq, q_itL, q_itT, q_revF, q_lrv, q_r1, q_r2, q_r2', q_gN, q_gT, q_gTL, q_sAn, q_sAc, q_app, q_app1, q_app2, q_put, q_put1, q_put2, q_put3, q_aug, q_unp, q_unp1, q_nxO, q_par, q_parO, q_run, q_outr, q_outn, start0, Option.bind_some, Option.bind_none, Option.map_some, Option.map_none, List.map_cons, List.map_nil, List.length_cons, List.length_nil, List.replicate_succ, List.replicate_zero, List.cons_append, List.nil_append, List.append_nil, List.getElem?_cons_zero, List.getElem?_cons_succ, List.getElem?_nil, List.set_cons_zero, List.set_cons_succ, chkL_of, chkT_of, Nat.zero_le, Nat.reduceLeDiff, Nat.reduceSub, Nat.reduceAdd, Nat.sub_self, Bool.not_false, Bool.not_true, q]

theorem ok_lowered {f : Addr} {fd : FuncData} {k : Nat} (B : Bt mg) (D : Fun K "lowered" "lowered" s_lowered f fd) :
    FnOk P w K mg base CX0 (k + 1) f fd ["row", "i", "j"] (spD K ["row", "i", "j"].length (runD N_lowered.length T_lowered)) := by
  have nd := sc_lowered.nd
  refine fnD D sc_lowered fun cdv A outer s H E hr => ?_
  exact (dss_one (ds_ret (de_ct c_tup B.tuple (das_cons (df_lc ([("k", 3)] : List (Str × Nat)) rfl nd (di_range1 B.range (de_cb c_len B.len (das_cons (dv 0) das_nil)).s) (blkOk_by (N := N_lowered) (sc := (defScope s_lowered)) (scope := mkS [(".0", .local), ("k", .local), ("int", .globalImplicit), ("i", .free), ("j", .free), ("row", .free)]) (by decide +kernel)) (dgr_name 3) (fun _ _ _ _ _ => dg_name 3 nd) (fun _ _ _ _ _ => dts_nil) (fun _ _ _ _ _ => (de_bin o_add (de_bin o_sub (de_ix (dv 0) (dv 3)).s (de_ct c_int B.int (das_cons (de_cmp (o_eq hr) (dv 3) (dv 1)).s das_nil)).s).s (de_ct c_int B.int (das_cons (de_cmp (o_eq hr) (dv 3) (dv 2)).s das_nil)).s))).s das_nil))))

/-! next_move -/
abbrev s_next_move : Stmt := topS 13
abbrev N_next_move : List Str := ["row", "goal", "first", "less", "more", "k"]
theorem sc_next_move : FnScope N_next_move ["row", "goal"] (defScope s_next_move) := ⟨rfl, rfl, rfl, by decide +kernel, rfl, by decide +kernel, by decide +kernel⟩
def Q_next_move_1 : En → Option (List PyData) := eLc (iRange1 (eCb dLen (aC (eV 0) aN))) [5] (gN 5) (kB (eBin dGt (eBin dIx (eV 0) (eV 5)) (eBin dIx (eV 1) (eV 5)))) (eC 5)
def Q_next_move_2 : En → Option (List PyData) := eLc (iRange2 (eV 2) (eCb dLen (aC (eV 0) aN))) [5] (gN 5) (kB (eBin dEq (eBin dIx (eV 0) (eV 5)) (eBin dIx (eV 0) (eV 2)))) (eC 5)
def Q_next_move_3 : En → Option (List PyData) := eLc (iRange2 (eV 2) (eCb dLen (aC (eV 0) aN))) [5] (gN 5) (kB (eBin dLt (eBin dIx (eV 0) (eV 5)) (eBin dIx (eV 1) (eV 5)))) (eC 5)
def T_next_move : En → Option Ou :=
  (sSeq (sSet 2 (eBin dIx (eL Q_next_move_1) (eK (.int 0))))
  (sSeq (sSet 3 (eBin dIx (eL Q_next_move_2) (eUn dNeg (eK (.int 1)))))
  (sSeq (sSet 4 (eBin dIx (eL Q_next_move_3) (eK (.int 0))))
  (sRet (eCall F_lowered (aC (eC 0) (aC (eC 3) (aC (eC 4) aN))))))))

def F_next_move : List PyData → Option PyData := runD N_next_move.length T_next_move
theorem fix_next_move : ∀ ds d, ds.length = 2 → F_next_move ds = some d → runD N_next_move.length T_next_move ds = some d := fun _ _ _ h => h

theorem next_e {a b : List Int} (O : Ov a b) (h : a.length ≤ 100000) {f l m : Nat} (N : Nxt a b f l m) : F_next_move [.tuple (a.map .int), .tuple (b.map .int)] = some (.tuple ((moveI a l m).map .int)) := by
  have hlen := O.len
  have hfl := N.fl
  have hlm := N.lm
  have hmn := N.mn
  obtain ⟨t1, h1⟩ := filter_head (p := fun k => decide (a.getD k 0 > b.getD k 0)) (k := f) (n := a.length) (decide_eq_true N.f1) (fun i hi => decide_eq_false (N.f0 i hi)) (by omega)
  obtain ⟨t2, h2⟩ := filter_last (p := fun k => (a.getD (f + k) 0 == a.getD f 0)) (k := l - f) (n := a.length - f) (by rw [show f + (l - f) = l by omega]; exact beq_iff_eq.mpr N.l1) (by omega) (fun i g1 g2 => beq_eq_false_iff_ne.mpr (N.l0 (f + i) (by omega) (by omega)))
  obtain ⟨t3, h3⟩ := filter_head (p := fun k => decide (a.getD (f + k) 0 < b.getD (f + k) 0)) (k := m - f) (n := a.length - f) (by rw [show f + (m - f) = m by omega]; exact decide_eq_true N.m1) (fun i hi => decide_eq_false (N.m0 (f + i) (by omega) (by omega))) (by omega)
  have q1 : Q_next_move_1 [.cl (.tuple (a.map .int)), .cl (.tuple (b.map .int)), .un, .un, .un, .un] = some ((f :: t1).map fun (k : Nat) => PyData.int (k : Int)) := by
    rw [← h1]
    unfold Q_next_move_1 eLc
    simp -implicitDefEqProofs only [z_bool_none, z_bool_bool, z_bool_int, z_bool_str, z_bool_list, z_bool_tuple, z_int_none, z_int_bool, z_int_int, z_int_str, z_int_list, z_int_tuple, z_tuple_none, z_tuple_bool, z_tuple_int, z_tuple_str, z_tuple_list, z_tuple_tuple, z_list_none, z_list_bool, z_list_int, z_list_str, z_list_list, z_list_tuple, z_str_none, z_str_bool, z_str_int, z_str_str, z_str_list, z_str_tuple, z_dict_none, z_dict_bool, z_dict_int, z_dict_str, z_dict_list, z_dict_tuple, q_seq, q_thn, q_thr, q_thb, q_thc, q_thro, q_if, q_ift, q_iff, q_nil, q_ret, q_retN, q_set, q_setO, q_setC, q_setW, q_frz, q_frzo, q_frzc, q_frzu, q_frzt, q_frzt', q_frzr, q_V, q_C, q_ow, q_Vc, q_Vo, q_Cc, q_Oo, q_K, q_N, q_aC, q_aC1, q_tup, q_lst, q_L, q_b, q_bb, q_kB, q_kNot, q_kAnd, q_kOr, q_kit, q_kif, q_kot, q_kof, q_eAnd, q_eOr, q_eit, q_eif, q_eot, q_eof, q_eNot, q_notO, q_eIf, q_eIt, q_eIff, q_bin, q_bin1, q_ch, q_ch1, q_ch2, q_ch3t, q_ch3f, q_addI, q_addS, q_addT, q_addL, q_sub, q_mul, q_mulT, q_imul, q_iadd, q_iaddS, q_fdiv, q_mod, q_pow, q_lsh, q_rsh, q_band, q_lt, q_le, q_gt, q_ge, q_eqI, q_neI, q_isB, q_isN, q_isnB, q_isnN, q_neg, q_un, q_revL, q_revT, q_ixL, q_ixT, q_iOf, q_oN, q_oS, q_sl, q_sl1, q_sl2, q_slT, q_slL, q_call, q_cb, q_cf, q_lenL, q_lenT, q_intI, q_intB, q_abs, q_tupL, q_tupT, q_listL, q_listT, q_sort, q_all, q_max2, q_min2, q_sumL, q_sumT, q_isi, q_isO, q_iseq, q_itL, q_itT, q_revF, q_lrv, q_r1, q_r2, q_r2', q_gN, q_gT, q_gTL, q_sAn, q_sAc, q_app, q_app1, q_app2, q_put, q_put1, q_put2, q_put3, q_aug, q_unp, q_unp1, q_nxO, q_par, q_parO, q_run, q_outr, q_outn, start0, Option.bind_some, Option.bind_none, Option.map_some, Option.map_none, List.map_cons, List.map_nil, List.length_cons, List.length_nil, List.replicate_succ, List.replicate_zero, List.cons_append, List.nil_append, List.append_nil, List.getElem?_cons_zero, List.getElem?_cons_succ, List.getElem?_nil, List.set_cons_zero, List.set_cons_succ, chkL_of, chkT_of, Nat.zero_le, Nat.reduceLeDiff, Nat.reduceSub, Nat.reduceAdd, Nat.sub_self, Bool.not_false, Bool.not_true, List.length_map, rngD_of (m := 0) (n := (a.length : Int)) (by omega) (by omega) (by omega) (by omega), Int.sub_zero, Int.toNat_natCast]
    rw [chkL_of (by rw [rangeD_length]; omega), Option.bind_some]
    unfold rangeD
    refine lcD_filter (List.range a.length) fun k hk => ?_
    have hk := List.mem_range.mp hk
    unfold lcT
    rw [Int.zero_add]
    simp only [wipeE, List.set_cons_zero, List.set_cons_succ]
    by_cases hh : a.getD k 0 > b.getD k 0
    · simp -implicitDefEqProofs only [z_bool_none, z_bool_bool, z_bool_int, z_bool_str, z_bool_list, z_bool_tuple, z_int_none, z_int_bool, z_int_int, z_int_str, z_int_list, z_int_tuple, z_tuple_none, z_tuple_bool, z_tuple_int, z_tuple_str, z_tuple_list, z_tuple_tuple, z_list_none, z_list_bool, z_list_int, z_list_str, z_list_list, z_list_tuple, z_str_none, z_str_bool, z_str_int, z_str_str, z_str_list, z_str_tuple, z_dict_none, z_dict_bool, z_dict_int, z_dict_str, z_dict_list, z_dict_tuple, q_seq, q_thn, q_thr, q_thb, q_thc, q_thro, q_if, q_ift, q_iff, q_nil, q_ret, q_retN, q_set, q_setO, q_setC, q_setW, q_frz, q_frzo, q_frzc, q_frzu, q_frzt, q_frzt', q_frzr, q_V, q_C, q_ow, q_Vc, q_Vo, q_Cc, q_Oo, q_K, q_N, q_aC, q_aC1, q_tup, q_lst, q_L, q_b, q_bb, q_kB, q_kNot, q_kAnd, q_kOr, q_kit, q_kif, q_kot, q_kof, q_eAnd, q_eOr, q_eit, q_eif, q_eot, q_eof, q_eNot, q_notO, q_eIf, q_eIt, q_eIff, q_bin, q_bin1, q_ch, q_ch1, q_ch2, q_ch3t, q_ch3f, q_addI, q_addS, q_addT, q_addL, q_sub, q_mul, q_mulT, q_imul, q_iadd, q_iaddS, q_fdiv, q_mod, q_pow, q_lsh, q_rsh, q_band, q_lt, q_le, q_gt, q_ge, q_eqI, q_neI, q_isB, q_isN, q_isnB, q_isnN, q_neg, q_un, q_revL, q_revT, q_ixL, q_ixT, q_iOf, q_oN, q_oS, q_sl, q_sl1, q_sl2, q_slT, q_slL, q_call, q_cb, q_cf, q_lenL, q_lenT, q_intI, q_intB, q_abs, q_tupL, q_tupT, q_listL, q_listT, q_sort, q_all, q_max2, q_min2, q_sumL, q_sumT, q_isi, q_isO, q_iseq, q_itL, q_itT, q_revF, q_lrv, q_r1, q_r2, q_r2', q_gN, q_gT, q_gTL, q_sAn, q_sAc, q_app, q_app1, q_app2, q_put, q_put1, q_put2, q_put3, q_aug, q_unp, q_unp1, q_nxO, q_par, q_parO, q_run, q_outr, q_outn, start0, Option.bind_some, Option.bind_none, Option.map_some, Option.map_none, List.map_cons, List.map_nil, List.length_cons, List.length_nil, List.replicate_succ, List.replicate_zero, List.cons_append, List.nil_append, List.append_nil, List.getElem?_cons_zero, List.getElem?_cons_succ, List.getElem?_nil, List.set_cons_zero, List.set_cons_succ, chkL_of, chkT_of, Nat.zero_le, Nat.reduceLeDiff, Nat.reduceSub, Nat.reduceAdd, Nat.sub_self, Bool.not_false, Bool.not_true, atI_getD hk, atI_getD (show k < b.length by omega), decide_eq_true (show b.getD k 0 < a.getD k 0 from hh), decide_eq_true hh]
      rfl
    · simp -implicitDefEqProofs only [z_bool_none, z_bool_bool, z_bool_int, z_bool_str, z_bool_list, z_bool_tuple, z_int_none, z_int_bool, z_int_int, z_int_str, z_int_list, z_int_tuple, z_tuple_none, z_tuple_bool, z_tuple_int, z_tuple_str, z_tuple_list, z_tuple_tuple, z_list_none, z_list_bool, z_list_int, z_list_str, z_list_list, z_list_tuple, z_str_none, z_str_bool, z_str_int, z_str_str, z_str_list, z_str_tuple, z_dict_none, z_dict_bool, z_dict_int, z_dict_str, z_dict_list, z_dict_tuple, q_seq, q_thn, q_thr, q_thb, q_thc, q_thro, q_if, q_ift, q_iff, q_nil, q_ret, q_retN, q_set, q_setO, q_setC, q_setW, q_frz, q_frzo, q_frzc, q_frzu, q_frzt, q_frzt', q_frzr, q_V, q_C, q_ow, q_Vc, q_Vo, q_Cc, q_Oo, q_K, q_N, q_aC, q_aC1, q_tup, q_lst, q_L, q_b, q_bb, q_kB, q_kNot, q_kAnd, q_kOr, q_kit, q_kif, q_kot, q_kof, q_eAnd, q_eOr, q_eit, q_eif, q_eot, q_eof, q_eNot, q_notO, q_eIf, q_eIt, q_eIff, q_bin, q_bin1, q_ch, q_ch1, q_ch2, q_ch3t, q_ch3f, q_addI, q_addS, q_addT, q_addL, q_sub, q_mul, q_mulT, q_imul, q_iadd, q_iaddS, q_fdiv, q_mod, q_pow, q_lsh, q_rsh, q_band, q_lt, q_le, q_gt, q_ge, q_eqI, q_neI, q_isB, q_isN, q_isnB, q_isnN, q_neg, q_un, q_revL, q_revT, q_ixL, q_ixT, q_iOf, q_oN, q_oS, q_sl, q_sl1, q_sl2, q_slT, q_slL, q_call, q_cb, q_cf, q_lenL, q_lenT, q_intI, q_intB, q_abs, q_tupL, q_tupT, q_listL, q_listT, q_sort, q_all, q_max2, q_min2, q_sumL, q_sumT, q_isi, q_isO, q_iseq, q_itL, q_itT, q_revF, q_lrv, q_r1, q_r2, q_r2', q_gN, q_gT, q_gTL, q_sAn, q_sAc, q_app, q_app1, q_app2, q_put, q_put1, q_put2, q_put3, q_aug, q_unp, q_unp1, q_nxO, q_par, q_parO, q_run, q_outr, q_outn, start0, Option.bind_some, Option.bind_none, Option.map_some, Option.map_none, List.map_cons, List.map_nil, List.length_cons, List.length_nil, List.replicate_succ, List.replicate_zero, List.cons_append, List.nil_append, List.append_nil, List.getElem?_cons_zero, List.getElem?_cons_succ, List.getElem?_nil, List.set_cons_zero, List.set_cons_succ, chkL_of, chkT_of, Nat.zero_le, Nat.reduceLeDiff, Nat.reduceSub, Nat.reduceAdd, Nat.sub_self, Bool.not_false, Bool.not_true, atI_getD hk, atI_getD (show k < b.length by omega), decide_eq_false (show ¬ b.getD k 0 < a.getD k 0 from hh), decide_eq_false hh]
      rfl
  have q2 : Q_next_move_2 [.cl (.tuple (a.map .int)), .cl (.tuple (b.map .int)), .cl (.int (f : Nat)), .un, .un, .un] = some ((t2 ++ [l - f]).map fun (k : Nat) => PyData.int ((f : Int) + (k : Int))) := by
    rw [← h2]
    unfold Q_next_move_2 eLc
    simp -implicitDefEqProofs only [z_bool_none, z_bool_bool, z_bool_int, z_bool_str, z_bool_list, z_bool_tuple, z_int_none, z_int_bool, z_int_int, z_int_str, z_int_list, z_int_tuple, z_tuple_none, z_tuple_bool, z_tuple_int, z_tuple_str, z_tuple_list, z_tuple_tuple, z_list_none, z_list_bool, z_list_int, z_list_str, z_list_list, z_list_tuple, z_str_none, z_str_bool, z_str_int, z_str_str, z_str_list, z_str_tuple, z_dict_none, z_dict_bool, z_dict_int, z_dict_str, z_dict_list, z_dict_tuple, q_seq, q_thn, q_thr, q_thb, q_thc, q_thro, q_if, q_ift, q_iff, q_nil, q_ret, q_retN, q_set, q_setO, q_setC, q_setW, q_frz, q_frzo, q_frzc, q_frzu, q_frzt, q_frzt', q_frzr, q_V, q_C, q_ow, q_Vc, q_Vo, q_Cc, q_Oo, q_K, q_N, q_aC, q_aC1, q_tup, q_lst, q_L, q_b, q_bb, q_kB, q_kNot, q_kAnd, q_kOr, q_kit, q_kif, q_kot, q_kof, q_eAnd, q_eOr, q_eit, q_eif, q_eot, q_eof, q_eNot, q_notO, q_eIf, q_eIt, q_eIff, q_bin, q_bin1, q_ch, q_ch1, q_ch2, q_ch3t, q_ch3f, q_addI, q_addS, q_addT, q_addL, q_sub, q_mul, q_mulT, q_imul, q_iadd, q_iaddS, q_fdiv, q_mod, q_pow, q_lsh, q_rsh, q_band, q_lt, q_le, q_gt, q_ge, q_eqI, q_neI, q_isB, q_isN, q_isnB, q_isnN, q_neg, q_un, q_revL, q_revT, q_ixL, q_ixT, q_iOf, q_oN, q_oS, q_sl, q_sl1, q_sl2, q_slT, q_slL, q_call, q_cb, q_cf, q_lenL, q_lenT, q_intI, q_intB, q_abs, q_tupL, q_tupT, q_listL, q_listT, q_sort, q_all, q_max2, q_min2, q_sumL, q_sumT, q_isi, q_isO, q_iseq, q_itL, q_itT, q_revF, q_lrv, q_r1, q_r2, q_r2', q_gN, q_gT, q_gTL, q_sAn, q_sAc, q_app, q_app1, q_app2, q_put, q_put1, q_put2, q_put3, q_aug, q_unp, q_unp1, q_nxO, q_par, q_parO, q_run, q_outr, q_outn, start0, Option.bind_some, Option.bind_none, Option.map_some, Option.map_none, List.map_cons, List.map_nil, List.length_cons, List.length_nil, List.replicate_succ, List.replicate_zero, List.cons_append, List.nil_append, List.append_nil, List.getElem?_cons_zero, List.getElem?_cons_succ, List.getElem?_nil, List.set_cons_zero, List.set_cons_succ, chkL_of, chkT_of, Nat.zero_le, Nat.reduceLeDiff, Nat.reduceSub, Nat.reduceAdd, Nat.sub_self, Bool.not_false, Bool.not_true, List.length_map, rngD_of (m := (f : Int)) (n := (a.length : Int)) (by omega) (by omega) (by omega) (by omega), show ((a.length : Int) - (f : Int)).toNat = a.length - f by omega]
    rw [chkL_of (by rw [rangeD_length]; omega), Option.bind_some]
    unfold rangeD
    refine lcD_filter (List.range (a.length - f)) fun k hk => ?_
    have hk := List.mem_range.mp hk
    unfold lcT
    simp only [wipeE, List.set_cons_zero, List.set_cons_succ]
    have ek : ((f : Int) + (k : Int)) = ((f + k : Nat) : Int) := by omega
    rw [ek]
    cases hh : (a.getD (f + k) 0 == a.getD f 0) with
    | true =>
      simp -implicitDefEqProofs only [z_bool_none, z_bool_bool, z_bool_int, z_bool_str, z_bool_list, z_bool_tuple, z_int_none, z_int_bool, z_int_int, z_int_str, z_int_list, z_int_tuple, z_tuple_none, z_tuple_bool, z_tuple_int, z_tuple_str, z_tuple_list, z_tuple_tuple, z_list_none, z_list_bool, z_list_int, z_list_str, z_list_list, z_list_tuple, z_str_none, z_str_bool, z_str_int, z_str_str, z_str_list, z_str_tuple, z_dict_none, z_dict_bool, z_dict_int, z_dict_str, z_dict_list, z_dict_tuple, q_seq, q_thn, q_thr, q_thb, q_thc, q_thro, q_if, q_ift, q_iff, q_nil, q_ret, q_retN, q_set, q_setO, q_setC, q_setW, q_frz, q_frzo, q_frzc, q_frzu, q_frzt, q_frzt', q_frzr, q_V, q_C, q_ow, q_Vc, q_Vo, q_Cc, q_Oo, q_K, q_N, q_aC, q_aC1, q_tup, q_lst, q_L, q_b, q_bb, q_kB, q_kNot, q_kAnd, q_kOr, q_kit, q_kif, q_kot, q_kof, q_eAnd, q_eOr, q_eit, q_eif, q_eot, q_eof, q_eNot, q_notO, q_eIf, q_eIt, q_eIff, q_bin, q_bin1, q_ch, q_ch1, q_ch2, q_ch3t, q_ch3f, q_addI, q_addS, q_addT, q_addL, q_sub, q_mul, q_mulT, q_imul, q_iadd, q_iaddS, q_fdiv, q_mod, q_pow, q_lsh, q_rsh, q_band, q_lt, q_le, q_gt, q_ge, q_eqI, q_neI, q_isB, q_isN, q_isnB, q_isnN, q_neg, q_un, q_revL, q_revT, q_ixL, q_ixT, q_iOf, q_oN, q_oS, q_sl, q_sl1, q_sl2, q_slT, q_slL, q_call, q_cb, q_cf, q_lenL, q_lenT, q_intI, q_intB, q_abs, q_tupL, q_tupT, q_listL, q_listT, q_sort, q_all, q_max2, q_min2, q_sumL, q_sumT, q_isi, q_isO, q_iseq, q_itL, q_itT, q_revF, q_lrv, q_r1, q_r2, q_r2', q_gN, q_gT, q_gTL, q_sAn, q_sAc, q_app, q_app1, q_app2, q_put, q_put1, q_put2, q_put3, q_aug, q_unp, q_unp1, q_nxO, q_par, q_parO, q_run, q_outr, q_outn, start0, Option.bind_some, Option.bind_none, Option.map_some, Option.map_none, List.map_cons, List.map_nil, List.length_cons, List.length_nil, List.replicate_succ, List.replicate_zero, List.cons_append, List.nil_append, List.append_nil, List.getElem?_cons_zero, List.getElem?_cons_succ, List.getElem?_nil, List.set_cons_zero, List.set_cons_succ, chkL_of, chkT_of, Nat.zero_le, Nat.reduceLeDiff, Nat.reduceSub, Nat.reduceAdd, Nat.sub_self, Bool.not_false, Bool.not_true, atI_getD (show f + k < a.length by omega), atI_getD (show f < a.length by omega), hh]
      rfl
    | false =>
      simp -implicitDefEqProofs only [z_bool_none, z_bool_bool, z_bool_int, z_bool_str, z_bool_list, z_bool_tuple, z_int_none, z_int_bool, z_int_int, z_int_str, z_int_list, z_int_tuple, z_tuple_none, z_tuple_bool, z_tuple_int, z_tuple_str, z_tuple_list, z_tuple_tuple, z_list_none, z_list_bool, z_list_int, z_list_str, z_list_list, z_list_tuple, z_str_none, z_str_bool, z_str_int, z_str_str, z_str_list, z_str_tuple, z_dict_none, z_dict_bool, z_dict_int, z_dict_str, z_dict_list, z_dict_tuple, q_seq, q_thn, q_thr, q_thb, q_thc, q_thro, q_if, q_ift, q_iff, q_nil, q_ret, q_retN, q_set, q_setO, q_setC, q_setW, q_frz, q_frzo, q_frzc, q_frzu, q_frzt, q_frzt', q_frzr, q_V, q_C, q_ow, q_Vc, q_Vo, q_Cc, q_Oo, q_K, q_N, q_aC, q_aC1, q_tup, q_lst, q_L, q_b, q_bb, q_kB, q_kNot, q_kAnd, q_kOr, q_kit, q_kif, q_kot, q_kof, q_eAnd, q_eOr, q_eit, q_eif, q_eot, q_eof, q_eNot, q_notO, q_eIf, q_eIt, q_eIff, q_bin, q_bin1, q_ch, q_ch1, q_ch2, q_ch3t, q_ch3f, q_addI, q_addS, q_addT, q_addL, q_sub, q_mul, q_mulT, q_imul, q_iadd, q_iaddS, q_fdiv, q_mod, q_pow, q_lsh, q_rsh, q_band, q_lt, q_le, q_gt, q_ge, q_eqI, q_neI, q_isB, q_isN, q_isnB, q_isnN, q_neg, q_un, q_revL, q_revT, q_ixL, q_ixT, q_iOf, q_oN, q_oS, q_sl, q_sl1, q_sl2, q_slT, q_slL, q_call, q_cb, q_cf, q_lenL, q_lenT, q_intI, q_intB, q_abs, q_tupL, q_tupT, q_listL, q_listT, q_sort, q_all, q_max2, q_min2, q_sumL, q_sumT, q_isi, q_isO, q_iseq, q_itL, q_itT, q_revF, q_lrv, q_r1, q_r2, q_r2', q_gN, q_gT, q_gTL, q_sAn, q_sAc, q_app, q_app1, q_app2, q_put, q_put1, q_put2, q_put3, q_aug, q_unp, q_unp1, q_nxO, q_par, q_parO, q_run, q_outr, q_outn, start0, Option.bind_some, Option.bind_none, Option.map_some, Option.map_none, List.map_cons, List.map_nil, List.length_cons, List.length_nil, List.replicate_succ, List.replicate_zero, List.cons_append, List.nil_append, List.append_nil, List.getElem?_cons_zero, List.getElem?_cons_succ, List.getElem?_nil, List.set_cons_zero, List.set_cons_succ, chkL_of, chkT_of, Nat.zero_le, Nat.reduceLeDiff, Nat.reduceSub, Nat.reduceAdd, Nat.sub_self, Bool.not_false, Bool.not_true, atI_getD (show f + k < a.length by omega), atI_getD (show f < a.length by omega), hh]
      rfl
  have q3 : Q_next_move_3 [.cl (.tuple (a.map .int)), .cl (.tuple (b.map .int)), .cl (.int (f : Nat)), .cl (.int (l : Nat)), .un, .un] = some (((m - f) :: t3).map fun (k : Nat) => PyData.int ((f : Int) + (k : Int))) := by
    rw [← h3]
    unfold Q_next_move_3 eLc
    simp -implicitDefEqProofs only [z_bool_none, z_bool_bool, z_bool_int, z_bool_str, z_bool_list, z_bool_tuple, z_int_none, z_int_bool, z_int_int, z_int_str, z_int_list, z_int_tuple, z_tuple_none, z_tuple_bool, z_tuple_int, z_tuple_str, z_tuple_list, z_tuple_tuple, z_list_none, z_list_bool, z_list_int, z_list_str, z_list_list, z_list_tuple, z_str_none, z_str_bool, z_str_int, z_str_str, z_str_list, z_str_tuple, z_dict_none, z_dict_bool, z_dict_int, z_dict_str, z_dict_list, z_dict_tuple, q_seq, q_thn, q_thr, q_thb, q_thc, q_thro, q_if, q_ift, q_iff, q_nil, q_ret, q_retN, q_set, q_setO, q_setC, q_setW, q_frz, q_frzo, q_frzc, q_frzu, q_frzt, q_frzt', q_frzr, q_V, q_C, q_ow, q_Vc, q_Vo, q_Cc, q_Oo, q_K, q_N, q_aC, q_aC1, q_tup, q_lst, q_L, q_b, q_bb, q_kB, q_kNot, q_kAnd, q_kOr, q_kit, q_kif, q_kot, q_kof, q_eAnd, q_eOr, q_eit, q_eif, q_eot, q_eof, q_eNot, q_notO, q_eIf, q_eIt, q_eIff, q_bin, q_bin1, q_ch, q_ch1, q_ch2, q_ch3t, q_ch3f, q_addI, q_addS, q_addT, q_addL, q_sub, q_mul, q_mulT, q_imul, q_iadd, q_iaddS, q_fdiv, q_mod, q_pow, q_lsh, q_rsh, q_band, q_lt, q_le, q_gt, q_ge, q_eqI, q_neI, q_isB, q_isN, q_isnB, q_isnN, q_neg, q_un, q_revL, q_revT, q_ixL, q_ixT, q_iOf, q_oN, q_oS, q_sl, q_sl1, q_sl2, q_slT, q_slL, q_call, q_cb, q_cf, q_lenL, q_lenT, q_intI, q_intB, q_abs, q_tupL, q_tupT, q_listL, q_listT, q_sort, q_all, q_max2, q_min2, q_sumL, q_sumT, q_isi, q_isO, q_iseq, q_itL, q_itT, q_revF, q_lrv, q_r1, q_r2, q_r2', q_gN, q_gT, q_gTL, q_sAn, q_sAc, q_app, q_app1, q_app2, q_put, q_put1, q_put2, q_put3, q_aug, q_unp, q_unp1, q_nxO, q_par, q_parO, q_run, q_outr, q_outn, start0, Option.bind_some, Option.bind_none, Option.map_some, Option.map_none, List.map_cons, List.map_nil, List.length_cons, List.length_nil, List.replicate_succ, List.replicate_zero, List.cons_append, List.nil_append, List.append_nil, List.getElem?_cons_zero, List.getElem?_cons_succ, List.getElem?_nil, List.set_cons_zero, List.set_cons_succ, chkL_of, chkT_of, Nat.zero_le, Nat.reduceLeDiff, Nat.reduceSub, Nat.reduceAdd, Nat.sub_self, Bool.not_false, Bool.not_true, List.length_map, rngD_of (m := (f : Int)) (n := (a.length : Int)) (by omega) (by omega) (by omega) (by omega), show ((a.length : Int) - (f : Int)).toNat = a.length - f by omega]
    rw [chkL_of (by rw [rangeD_length]; omega), Option.bind_some]
    unfold rangeD
    refine lcD_filter (List.range (a.length - f)) fun k hk => ?_
    have hk := List.mem_range.mp hk
    unfold lcT
    simp only [wipeE, List.set_cons_zero, List.set_cons_succ]
    have ek : ((f : Int) + (k : Int)) = ((f + k : Nat) : Int) := by omega
    rw [ek]
    by_cases hh : a.getD (f + k) 0 < b.getD (f + k) 0
    · simp -implicitDefEqProofs only [z_bool_none, z_bool_bool, z_bool_int, z_bool_str, z_bool_list, z_bool_tuple, z_int_none, z_int_bool, z_int_int, z_int_str, z_int_list, z_int_tuple, z_tuple_none, z_tuple_bool, z_tuple_int, z_tuple_str, z_tuple_list, z_tuple_tuple, z_list_none, z_list_bool, z_list_int, z_list_str, z_list_list, z_list_tuple, z_str_none, z_str_bool, z_str_int, z_str_str, z_str_list, z_str_tuple, z_dict_none, z_dict_bool, z_dict_int, z_dict_str, z_dict_list, z_dict_tuple, q_seq, q_thn, q_thr, q_thb, q_thc, q_thro, q_if, q_ift, q_iff, q_nil, q_ret, q_retN, q_set, q_setO, q_setC, q_setW, q_frz, q_frzo, q_frzc, q_frzu, q_frzt, q_frzt', q_frzr, q_V, q_C, q_ow, q_Vc, q_Vo, q_Cc, q_Oo, q_K, q_N, q_aC, q_aC1, q_tup, q_lst, q_L, q_b, q_bb, q_kB, q_kNot, q_kAnd, q_kOr, q_kit, q_kif, q_kot, q_kof, q_eAnd, q_eOr, q_eit, q_eif, q_eot, q_eof, q_eNot, q_notO, q_eIf, q_eIt, q_eIff, q_bin, q_bin1, q_ch, q_ch1, q_ch2, q_ch3t, q_ch3f, q_addI, q_addS, q_addT, q_addL, q_sub, q_mul, q_mulT, q_imul, q_iadd, q_iaddS, q_fdiv, q_mod, q_pow, q_lsh, q_rsh, q_band, q_lt, q_le, q_gt, q_ge, q_eqI, q_neI, q_isB, q_isN, q_isnB, q_isnN, q_neg, q_un, q_revL, q_revT, q_ixL, q_ixT, q_iOf, q_oN, q_oS, q_sl, q_sl1, q_sl2, q_slT, q_slL, q_call, q_cb, q_cf, q_lenL, q_lenT, q_intI, q_intB, q_abs, q_tupL, q_tupT, q_listL, q_listT, q_sort, q_all, q_max2, q_min2, q_sumL, q_sumT, q_isi, q_isO, q_iseq, q_itL, q_itT, q_revF, q_lrv, q_r1, q_r2, q_r2', q_gN, q_gT, q_gTL, q_sAn, q_sAc, q_app, q_app1, q_app2, q_put, q_put1, q_put2, q_put3, q_aug, q_unp, q_unp1, q_nxO, q_par, q_parO, q_run, q_outr, q_outn, start0, Option.bind_some, Option.bind_none, Option.map_some, Option.map_none, List.map_cons, List.map_nil, List.length_cons, List.length_nil, List.replicate_succ, List.replicate_zero, List.cons_append, List.nil_append, List.append_nil, List.getElem?_cons_zero, List.getElem?_cons_succ, List.getElem?_nil, List.set_cons_zero, List.set_cons_succ, chkL_of, chkT_of, Nat.zero_le, Nat.reduceLeDiff, Nat.reduceSub, Nat.reduceAdd, Nat.sub_self, Bool.not_false, Bool.not_true, atI_getD (show f + k < a.length by omega), atI_getD (show f + k < b.length by omega), decide_eq_true hh]
      rfl
    · simp -implicitDefEqProofs only [z_bool_none, z_bool_bool, z_bool_int, z_bool_str, z_bool_list, z_bool_tuple, z_int_none, z_int_bool, z_int_int, z_int_str, z_int_list, z_int_tuple, z_tuple_none, z_tuple_bool, z_tuple_int, z_tuple_str, z_tuple_list, z_tuple_tuple, z_list_none, z_list_bool, z_list_int, z_list_str, z_list_list, z_list_tuple, z_str_none, z_str_bool, z_str_int, z_str_str, z_str_list, z_str_tuple, z_dict_none, z_dict_bool, z_dict_int, z_dict_str, z_dict_list, z_dict_tuple, q_seq, q_thn, q_thr, q_thb, q_thc, q_thro, q_if, q_ift, q_iff, q_nil, q_ret, q_retN, q_set, q_setO, q_setC, q_setW, q_frz, q_frzo, q_frzc, q_frzu, q_frzt, q_frzt', q_frzr, q_V, q_C, q_ow, q_Vc, q_Vo, q_Cc, q_Oo, q_K, q_N, q_aC, q_aC1, q_tup, q_lst, q_L, q_b, q_bb, q_kB, q_kNot, q_kAnd, q_kOr, q_kit, q_kif, q_kot, q_kof, q_eAnd, q_eOr, q_eit, q_eif, q_eot, q_eof, q_eNot, q_notO, q_eIf, q_eIt, q_eIff, q_bin, q_bin1, q_ch, q_ch1, q_ch2, q_ch3t, q_ch3f, q_addI, q_addS, q_addT, q_addL, q_sub, q_mul, q_mulT, q_imul, q_iadd, q_iaddS, q_fdiv, q_mod, q_pow, q_lsh, q_rsh, q_band, q_lt, q_le, q_gt, q_ge, q_eqI, q_neI, q_isB, q_isN, q_isnB, q_isnN, q_neg, q_un, q_revL, q_revT, q_ixL, q_ixT, q_iOf, q_oN, q_oS, q_sl, q_sl1, q_sl2, q_slT, q_slL, q_call, q_cb, q_cf, q_lenL, q_lenT, q_intI, q_intB, q_abs, q_tupL, q_tupT, q_listL, q_listT, q_sort, q_all, q_max2, q_min2, q_sumL, q_sumT, q_isi, q_isO, q_iseq, q_itL, q_itT, q_revF, q_lrv, q_r1, q_r2, q_r2', q_gN, q_gT, q_gTL, q_sAn, q_sAc, q_app, q_app1, q_app2, q_put, q_put1, q_put2, q_put3, q_aug, q_unp, q_unp1, q_nxO, q_par, q_parO, q_run, q_outr, q_outn, start0, Option.bind_some, Option.bind_none, Option.map_some, Option.map_none, List.map_cons, List.map_nil, List.length_cons, List.length_nil, List.replicate_succ, List.replicate_zero, List.cons_append, List.nil_append, List.append_nil, List.getElem?_cons_zero, List.getElem?_cons_succ, List.getElem?_nil, List.set_cons_zero, List.set_cons_succ, chkL_of, chkT_of, Nat.zero_le, Nat.reduceLeDiff, Nat.reduceSub, Nat.reduceAdd, Nat.sub_self, Bool.not_false, Bool.not_true, atI_getD (show f + k < a.length by omega), atI_getD (show f + k < b.length by omega), decide_eq_false hh]
      rfl
  have g1 : atI ((f :: t1).map fun (k : Nat) => PyData.int (k : Int)) 0 = some (.int (f : Nat)) := atI_cons0 _ _
  have g2 : atI ((t2 ++ [l - f]).map fun (k : Nat) => PyData.int ((f : Int) + (k : Int))) (-1) = some (.int (l : Nat)) := by
    rw [List.map_append]
    refine (atI_lst _ _).trans ?_
    show some (PyData.int ((f : Int) + ((l - f : Nat) : Int))) = _
    rw [show ((f : Int) + ((l - f : Nat) : Int)) = (l : Nat) by omega]
  have g3 : atI (((m - f) :: t3).map fun (k : Nat) => PyData.int ((f : Int) + (k : Int))) 0 = some (.int (m : Nat)) := by
    refine (atI_cons0 _ _).trans ?_
    show some (PyData.int ((f : Int) + ((m - f : Nat) : Int))) = _
    rw [show ((f : Int) + ((m - f : Nat) : Int)) = (m : Nat) by omega]
  generalize ((f :: t1).map fun (k : Nat) => PyData.int (k : Int)) = L1 at q1 g1
  generalize ((t2 ++ [l - f]).map fun (k : Nat) => PyData.int ((f : Int) + (k : Int))) = L2 at q2 g2
  generalize (((m - f) :: t3).map fun (k : Nat) => PyData.int ((f : Int) + (k : Int))) = L3 at q3 g3
  unfold F_next_move T_next_move
  simp -implicitDefEqProofs only [z_bool_none, z_bool_bool, z_bool_int, z_bool_str, z_bool_list, z_bool_tuple, z_int_none, z_int_bool, z_int_int, z_int_str, z_int_list, z_int_tuple, z_tuple_none, z_tuple_bool, z_tuple_int, z_tuple_str, z_tuple_list, z_tuple_tuple, z_list_none, z_list_bool, z_list_int, z_list_str, z_list_list, z_list_tuple, z_str_none, z_str_bool, z_str_int, z_str_str, z_str_list, z_str_tuple, z_dict_none, z_dict_bool, z_dict_int, z_dict_str, z_dict_list, z_dict_tuple, q_seq, q_thn, q_thr, q_thb, q_thc, q_thro, q_if, q_ift, q_iff, q_nil, q_ret, q_retN, q_set, q_setO, q_setC, q_setW, q_frz, q_frzo, q_frzc, q_frzu, q_frzt, q_frzt', q_frzr, q_V, q_C, q_ow, q_Vc, q_Vo, q_Cc, q_Oo, q_K, q_N, q_aC, q_aC1, q_tup, q_lst, q_L, q_b, q_bb, q_kB, q_kNot, q_kAnd, q_kOr, q_kit, q_kif, q_kot, q_kof, q_eAnd, q_eOr, q_eit, q_eif, q_eot, q_eof, q_eNot, q_notO, q_eIf, q_eIt, q_eIff, q_bin, q_bin1, q_ch, q_ch1, q_ch2, q_ch3t, q_ch3f, q_addI, q_addS, q_addT, q_addL, q_sub, q_mul, q_mulT, q_imul, q_iadd, q_iaddS, q_fdiv, q_mod, q_pow, q_lsh, q_rsh, q_band, q_lt, q_le, q_gt, q_ge, q_eqI, q_neI, q_isB, q_isN, q_isnB, q_isnN, q_neg, q_un, q_revL, q_revT, q_ixL, q_ixT, q_iOf, q_oN, q_oS, q_sl, q_sl1, q_sl2, q_slT, q_slL, q_call, q_cb, q_cf, q_lenL, q_lenT, q_intI, q_intB, q_abs, q_tupL, q_tupT, q_listL, q_listT, q_sort, q_all, q_max2, q_min2, q_sumL, q_sumT, q_isi, q_isO, q_iseq, q_itL, q_itT, q_revF, q_lrv, q_r1, q_r2, q_r2', q_gN, q_gT, q_gTL, q_sAn, q_sAc, q_app, q_app1, q_app2, q_put, q_put1, q_put2, q_put3, q_aug, q_unp, q_unp1, q_nxO, q_par, q_parO, q_run, q_outr, q_outn, start0, Option.bind_some, Option.bind_none, Option.map_some, Option.map_none, List.map_cons, List.map_nil, List.length_cons, List.length_nil, List.replicate_succ, List.replicate_zero, List.cons_append, List.nil_append, List.append_nil, List.getElem?_cons_zero, List.getElem?_cons_succ, List.getElem?_nil, List.set_cons_zero, List.set_cons_succ, chkL_of, chkT_of, Nat.zero_le, Nat.reduceLeDiff, Nat.reduceSub, Nat.reduceAdd, Nat.sub_self, Bool.not_false, Bool.not_true, q1, g1, q2, g2, q3, g3, lowered_e h]

theorem ok_next_move {f : Addr} {fd : FuncData} {k : Nat} (B : Bt mg) (D : Fun K "next_move" "next_move" s_next_move f fd) (C_lowered : Cl P w K mg base k "lowered" 3 F_lowered) :
    FnOk P w K mg base CX0 (k + 1) f fd ["row", "goal"] (spD K ["row", "goal"].length (runD N_next_move.length T_next_move)) := by
  have nd := sc_next_move.nd
  refine fnD D sc_next_move fun cdv A outer s H E hr => ?_
  exact (dss_cons (ds_set 2 nd (de_ix (df_lc ([("k", 5)] : List (Str × Nat)) rfl nd (di_range1 B.range (de_cb c_len B.len (das_cons (dv 0) das_nil)).s) (blkOk_by (N := N_next_move) (sc := (defScope s_next_move)) (scope := mkS [(".0", .local), ("k", .local), ("goal", .free), ("row", .free)]) (by decide +kernel)) (dgr_name 5) (fun _ _ _ _ _ => dg_name 5 nd) (fun _ _ _ _ _ => dts_one (dt_cmp o_gt (de_ix (dv 0) (dv 5)).s (de_ix (dv 1) (dv 5)).s)) (fun _ _ _ _ _ => (dc 5))).s dint.s))
  (dss_cons (ds_set 3 nd (de_ix (df_lc ([("k", 5)] : List (Str × Nat)) rfl nd (di_range2 B.range (dv 2) (de_cb c_len B.len (das_cons (dv 0) das_nil)).s) (blkOk_by (N := N_next_move) (sc := (defScope s_next_move)) (scope := mkS [(".0", .local), ("k", .local), ("first", .free), ("row", .free)]) (by decide +kernel)) (dgr_name 5) (fun _ _ _ _ _ => dg_name 5 nd) (fun _ _ _ _ _ => dts_one (dt_cmp (o_eq hr) (de_ix (dv 0) (dv 5)).s (de_ix (dv 0) (dv 2)).s)) (fun _ _ _ _ _ => (dc 5))).s (de_neg dint.s).s))
  (dss_cons (ds_set 4 nd (de_ix (df_lc ([("k", 5)] : List (Str × Nat)) rfl nd (di_range2 B.range (dv 2) (de_cb c_len B.len (das_cons (dv 0) das_nil)).s) (blkOk_by (N := N_next_move) (sc := (defScope s_next_move)) (scope := mkS [(".0", .local), ("k", .local), ("goal", .free), ("row", .free)]) (by decide +kernel)) (dgr_name 5) (fun _ _ _ _ _ => dg_name 5 nd) (fun _ _ _ _ _ => dts_one (dt_cmp o_lt (de_ix (dv 0) (dv 5)).s (de_ix (dv 1) (dv 5)).s)) (fun _ _ _ _ _ => (dc 5))).s dint.s))
  (dss_one (ds_ret (de_call (C_lowered.fc hr (Nat.le_refl _)) (da_cons (dc 0) (da_cons (dc 3) (da_cons (dc 4) da_nil)))))))))

/-! level_paper -/
abbrev s_level_paper : Stmt := topS 14
abbrev N_level_paper : List Str := ["a", "b", "k", "rows"]
theorem sc_level_paper : FnScope N_level_paper ["a", "b"] (defScope s_level_paper) := ⟨rfl, rfl, rfl, by decide +kernel, rfl, by decide +kernel, by decide +kernel⟩
def W_level_paper : Nat := 2 ^ 45
def B_level_paper_1 : En → Option Ou :=
  (sIf (kB (eBin dLt (eCb dSum (aC (eSl (eV 0) oN (oS (eV 2))) aN)) (eCb dSum (aC (eSl (eV 1) oN (oS (eV 2))) aN))))
  (sRet (eTup (aC (eK (.str "less")) (aC (eC 2) aN))))
  sNil)
def L_level_paper_1 : En → Option Ou := sFor (iRange2 (eK (.int 1)) (eCb dLen (aC (eV 0) aN))) (gN 2) B_level_paper_1
def B_level_paper_2 : En → Option Ou :=
  (sApp 3 (eCall F_next_move (aC (eBin dIx (eV 3) (eUn dNeg (eK (.int 1)))) (aC (eC 1) aN))))
def L_level_paper_2 : En → Option Ou := whileD (kB (eBin dNe (eBin dIx (eV 3) (eUn dNeg (eK (.int 1)))) (eV 1))) B_level_paper_2 W_level_paper
def T_level_paper : En → Option Ou :=
  (sSeq (sIf (kB (eBin dNe (eCb dSum (aC (eV 0) aN)) (eCb dSum (aC (eV 1) aN))))
  (sRet (eTup (aC (eK (.str "totals")) aN)))
  sNil)
  (sSeq L_level_paper_1
  (sSeq (sSetO 3 (eLst (aC (eC 0) aN)))
  (sSeq L_level_paper_2
  (sFrz 3 (sRet (eTup (aC (eK (.str "moves")) (aC (eCb dTup (aC (eV 3) aN)) aN)))))))))

def F_level_paper : List PyData → Option PyData := runD N_level_paper.length T_level_paper
theorem fix_level_paper : ∀ ds d, ds.length = 2 → F_level_paper ds = some d → runD N_level_paper.length T_level_paper ds = some d := fun _ _ _ h => h

theorem level_while {a b : List Int} (hl : b.length ≤ 100000) (z : Sl) : ∀ (m : Nat) (vs : List (List Int)), Pth a b vs → (msum (vs.getD (vs.length - 1) []) (b.length + 1) - msum b (b.length + 1)).toNat < m → vs.length + (msum (vs.getD (vs.length - 1) []) (b.length + 1) - msum b (b.length + 1)).toNat ≤ 900000 →
    ∃ vs' : List (List Int), Pth a b vs' ∧ vs'.getD (vs'.length - 1) [] = b ∧ vs'.length ≤ vs.length + (msum (vs.getD (vs.length - 1) []) (b.length + 1) - msum b (b.length + 1)).toNat ∧ whileD (kB (eBin dNe (eBin dIx (eV 3) (eUn dNeg (eK (.int 1)))) (eV 1))) B_level_paper_2 m [.cl (.tuple (a.map .int)), .cl (.tuple (b.map .int)), z, .ow (vs.map fun r => PyData.tuple (r.map .int))] = some (.nx [.cl (.tuple (a.map .int)), .cl (.tuple (b.map .int)), z, .ow (vs'.map fun r => PyData.tuple (r.map .int))])
  | 0, vs, _, h, _ => absurd h (Nat.not_lt_zero _)
  | m + 1, vs, P, h, hs => by
    have hn := P.ne
    have hO := P.ov _ (getD_memL (vs := vs) (k := vs.length - 1) (by omega))
    have elast : atI (vs.map fun r => PyData.tuple (r.map .int)) (-1) = some (.tuple ((vs.getD (vs.length - 1) []).map .int)) := by
      rw [atI_neg1 (by rw [List.length_map]; omega), List.getElem_map, getDat (by omega)]
      simp
    generalize hc : vs.getD (vs.length - 1) [] = cur at *
    unfold whileD
    by_cases e : cur = b
    · refine ⟨vs, P, by rw [hc, e], by omega, ?_⟩
      simp -implicitDefEqProofs only [z_bool_none, z_bool_bool, z_bool_int, z_bool_str, z_bool_list, z_bool_tuple, z_int_none, z_int_bool, z_int_int, z_int_str, z_int_list, z_int_tuple, z_tuple_none, z_tuple_bool, z_tuple_int, z_tuple_str, z_tuple_list, z_tuple_tuple, z_list_none, z_list_bool, z_list_int, z_list_str, z_list_list, z_list_tuple, z_str_none, z_str_bool, z_str_int, z_str_str, z_str_list, z_str_tuple, z_dict_none, z_dict_bool, z_dict_int, z_dict_str, z_dict_list, z_dict_tuple, q_seq, q_thn, q_thr, q_thb, q_thc, q_thro, q_if, q_ift, q_iff, q_nil, q_ret, q_retN, q_set, q_setO, q_setC, q_setW, q_frz, q_frzo, q_frzc, q_frzu, q_frzt, q_frzt', q_frzr, q_V, q_C, q_ow, q_Vc, q_Vo, q_Cc, q_Oo, q_K, q_N, q_aC, q_aC1, q_tup, q_lst, q_L, q_b, q_bb, q_kB, q_kNot, q_kAnd, q_kOr, q_kit, q_kif, q_kot, q_kof, q_eAnd, q_eOr, q_eit, q_eif, q_eot, q_eof, q_eNot, q_notO, q_eIf, q_eIt, q_eIff, q_bin, q_bin1, q_ch, q_ch1, q_ch2, q_ch3t, q_ch3f, q_addI, q_addS, q_addT, q_addL, q_sub, q_mul, q_mulT, q_imul, q_iadd, q_iaddS, q_fdiv, q_mod, q_pow, q_lsh, q_rsh, q_band, q_lt, q_le, q_gt, q_ge, q_eqI, q_neI, q_isB, q_isN, q_isnB, q_isnN, q_neg, q_un, q_revL, q_revT, q_ixL, q_ixT, q_iOf, q_oN, q_oS, q_sl, q_sl1, q_sl2, q_slT, q_slL, q_call, q_cb, q_cf, q_lenL, q_lenT, q_intI, q_intB, q_abs, q_tupL, q_tupT, q_listL, q_listT, q_sort, q_all, q_max2, q_min2, q_sumL, q_sumT, q_isi, q_isO, q_iseq, q_itL, q_itT, q_revF, q_lrv, q_r1, q_r2, q_r2', q_gN, q_gT, q_gTL, q_sAn, q_sAc, q_app, q_app1, q_app2, q_put, q_put1, q_put2, q_put3, q_aug, q_unp, q_unp1, q_nxO, q_par, q_parO, q_run, q_outr, q_outn, start0, Option.bind_some, Option.bind_none, Option.map_some, Option.map_none, List.map_cons, List.map_nil, List.length_cons, List.length_nil, List.replicate_succ, List.replicate_zero, List.cons_append, List.nil_append, List.append_nil, List.getElem?_cons_zero, List.getElem?_cons_succ, List.getElem?_nil, List.set_cons_zero, List.set_cons_succ, chkL_of, chkT_of, Nat.zero_le, Nat.reduceLeDiff, Nat.reduceSub, Nat.reduceAdd, Nat.sub_self, Bool.not_false, Bool.not_true, elast, dNe_intT, decide_eq_true e]
      rfl
    · obtain ⟨f, l, mm, N⟩ := nxt_of hO e
      obtain ⟨O', hlt⟩ := nxt_ov hO N
      have P' : Pth a b (vs ++ [moveI cur l mm]) := by
        have := P.next (f := f) (l := l) (m := mm) (by rw [hc]; exact N)
        rwa [hc] at this
      have hlast : (vs ++ [moveI cur l mm]).getD ((vs ++ [moveI cur l mm]).length - 1) [] = moveI cur l mm := getD_appR (by rw [List.length_append, List.length_singleton]; omega)
      have hle := O'.msum_le
      rw [moveI_length, hO.len] at hle
      rw [hO.len] at hlt
      have hlen' : (vs ++ [moveI cur l mm]).length = vs.length + 1 := by rw [List.length_append, List.length_singleton]
      obtain ⟨vs', P2, h2, h3, h4⟩ := level_while hl z m (vs ++ [moveI cur l mm]) P' (by rw [hlast]; omega) (by rw [hlast, hlen']; omega)
      refine ⟨vs', P2, h2, by rw [hlast, hlen'] at h3; omega, ?_⟩
      have hnx := next_e hO (by have := hO.len; omega) N
      have hch : chkL ((vs.map fun r => PyData.tuple (r.map .int)) ++ [.tuple ((moveI cur l mm).map .int)]) = some ((vs.map fun r => PyData.tuple (r.map .int)) ++ [.tuple ((moveI cur l mm).map .int)]) := chkL_of (by rw [List.length_append, List.length_map, List.length_singleton]; omega)
      have eb : B_level_paper_2 [.cl (.tuple (a.map .int)), .cl (.tuple (b.map .int)), z, .ow (vs.map fun r => PyData.tuple (r.map .int))] = some (.nx [.cl (.tuple (a.map .int)), .cl (.tuple (b.map .int)), z, .ow ((vs ++ [moveI cur l mm]).map fun r => PyData.tuple (r.map .int))]) := by
        unfold B_level_paper_2
        simp -implicitDefEqProofs only [z_bool_none, z_bool_bool, z_bool_int, z_bool_str, z_bool_list, z_bool_tuple, z_int_none, z_int_bool, z_int_int, z_int_str, z_int_list, z_int_tuple, z_tuple_none, z_tuple_bool, z_tuple_int, z_tuple_str, z_tuple_list, z_tuple_tuple, z_list_none, z_list_bool, z_list_int, z_list_str, z_list_list, z_list_tuple, z_str_none, z_str_bool, z_str_int, z_str_str, z_str_list, z_str_tuple, z_dict_none, z_dict_bool, z_dict_int, z_dict_str, z_dict_list, z_dict_tuple, q_seq, q_thn, q_thr, q_thb, q_thc, q_thro, q_if, q_ift, q_iff, q_nil, q_ret, q_retN, q_set, q_setO, q_setC, q_setW, q_frz, q_frzo, q_frzc, q_frzu, q_frzt, q_frzt', q_frzr, q_V, q_C, q_ow, q_Vc, q_Vo, q_Cc, q_Oo, q_K, q_N, q_aC, q_aC1, q_tup, q_lst, q_L, q_b, q_bb, q_kB, q_kNot, q_kAnd, q_kOr, q_kit, q_kif, q_kot, q_kof, q_eAnd, q_eOr, q_eit, q_eif, q_eot, q_eof, q_eNot, q_notO, q_eIf, q_eIt, q_eIff, q_bin, q_bin1, q_ch, q_ch1, q_ch2, q_ch3t, q_ch3f, q_addI, q_addS, q_addT, q_addL, q_sub, q_mul, q_mulT, q_imul, q_iadd, q_iaddS, q_fdiv, q_mod, q_pow, q_lsh, q_rsh, q_band, q_lt, q_le, q_gt, q_ge, q_eqI, q_neI, q_isB, q_isN, q_isnB, q_isnN, q_neg, q_un, q_revL, q_revT, q_ixL, q_ixT, q_iOf, q_oN, q_oS, q_sl, q_sl1, q_sl2, q_slT, q_slL, q_call, q_cb, q_cf, q_lenL, q_lenT, q_intI, q_intB, q_abs, q_tupL, q_tupT, q_listL, q_listT, q_sort, q_all, q_max2, q_min2, q_sumL, q_sumT, q_isi, q_isO, q_iseq, q_itL, q_itT, q_revF, q_lrv, q_r1, q_r2, q_r2', q_gN, q_gT, q_gTL, q_sAn, q_sAc, q_app, q_app1, q_app2, q_put, q_put1, q_put2, q_put3, q_aug, q_unp, q_unp1, q_nxO, q_par, q_parO, q_run, q_outr, q_outn, start0, Option.bind_some, Option.bind_none, Option.map_some, Option.map_none, List.map_cons, List.map_nil, List.length_cons, List.length_nil, List.replicate_succ, List.replicate_zero, List.cons_append, List.nil_append, List.append_nil, List.getElem?_cons_zero, List.getElem?_cons_succ, List.getElem?_nil, List.set_cons_zero, List.set_cons_succ, chkL_of, chkT_of, Nat.zero_le, Nat.reduceLeDiff, Nat.reduceSub, Nat.reduceAdd, Nat.sub_self, Bool.not_false, Bool.not_true, elast, hnx, hch, List.map_append]
      simp -implicitDefEqProofs only [z_bool_none, z_bool_bool, z_bool_int, z_bool_str, z_bool_list, z_bool_tuple, z_int_none, z_int_bool, z_int_int, z_int_str, z_int_list, z_int_tuple, z_tuple_none, z_tuple_bool, z_tuple_int, z_tuple_str, z_tuple_list, z_tuple_tuple, z_list_none, z_list_bool, z_list_int, z_list_str, z_list_list, z_list_tuple, z_str_none, z_str_bool, z_str_int, z_str_str, z_str_list, z_str_tuple, z_dict_none, z_dict_bool, z_dict_int, z_dict_str, z_dict_list, z_dict_tuple, q_seq, q_thn, q_thr, q_thb, q_thc, q_thro, q_if, q_ift, q_iff, q_nil, q_ret, q_retN, q_set, q_setO, q_setC, q_setW, q_frz, q_frzo, q_frzc, q_frzu, q_frzt, q_frzt', q_frzr, q_V, q_C, q_ow, q_Vc, q_Vo, q_Cc, q_Oo, q_K, q_N, q_aC, q_aC1, q_tup, q_lst, q_L, q_b, q_bb, q_kB, q_kNot, q_kAnd, q_kOr, q_kit, q_kif, q_kot, q_kof, q_eAnd, q_eOr, q_eit, q_eif, q_eot, q_eof, q_eNot, q_notO, q_eIf, q_eIt, q_eIff, q_bin, q_bin1, q_ch, q_ch1, q_ch2, q_ch3t, q_ch3f, q_addI, q_addS, q_addT, q_addL, q_sub, q_mul, q_mulT, q_imul, q_iadd, q_iaddS, q_fdiv, q_mod, q_pow, q_lsh, q_rsh, q_band, q_lt, q_le, q_gt, q_ge, q_eqI, q_neI, q_isB, q_isN, q_isnB, q_isnN, q_neg, q_un, q_revL, q_revT, q_ixL, q_ixT, q_iOf, q_oN, q_oS, q_sl, q_sl1, q_sl2, q_slT, q_slL, q_call, q_cb, q_cf, q_lenL, q_lenT, q_intI, q_intB, q_abs, q_tupL, q_tupT, q_listL, q_listT, q_sort, q_all, q_max2, q_min2, q_sumL, q_sumT, q_isi, q_isO, q_iseq, q_itL, q_itT, q_revF, q_lrv, q_r1, q_r2, q_r2', q_gN, q_gT, q_gTL, q_sAn, q_sAc, q_app, q_app1, q_app2, q_put, q_put1, q_put2, q_put3, q_aug, q_unp, q_unp1, q_nxO, q_par, q_parO, q_run, q_outr, q_outn, start0, Option.bind_some, Option.bind_none, Option.map_some, Option.map_none, List.map_cons, List.map_nil, List.length_cons, List.length_nil, List.replicate_succ, List.replicate_zero, List.cons_append, List.nil_append, List.append_nil, List.getElem?_cons_zero, List.getElem?_cons_succ, List.getElem?_nil, List.set_cons_zero, List.set_cons_succ, chkL_of, chkT_of, Nat.zero_le, Nat.reduceLeDiff, Nat.reduceSub, Nat.reduceAdd, Nat.sub_self, Bool.not_false, Bool.not_true, elast, dNe_intT, decide_eq_false e, eb]
      exact h4
/-- what a level paper says -/
def LP (a b : List Int) (d : PyData) : Prop :=
  ((a.sum == b.sum) = false ∧ d = .tuple [.str ("totals" : Str)]) ∨
  ((a.sum == b.sum) = true ∧ ∃ k : Nat, 1 ≤ k ∧ k < a.length ∧ (a.take k).sum < (b.take k).sum ∧ d = .tuple [.str ("less" : Str), .int (k : Nat)]) ∨
  (overB a b = true ∧ ∃ vs : List (List Int), Pth a b vs ∧ vs.getD (vs.length - 1) [] = b ∧ (vs.length ≤ 900000 ∧ vs.length ≤ 1 + (msum a (b.length + 1) - msum b (b.length + 1)).toNat ∧ Ov a b) ∧ d = .tuple [.str ("moves" : Str), .tuple (vs.map fun r => PyData.tuple (r.map .int))])
theorem level_e {a b : List Int} (h1 : 1 ≤ a.length) (h6 : a.length ≤ 6) (hb : b.length = a.length) (fa : a.Pairwise (· ≥ ·)) (fb : b.Pairwise (· ≥ ·)) (ba : ∀ x ∈ a, -3000 ≤ x ∧ x ≤ 3000) (bb : ∀ x ∈ b, -3000 ≤ x ∧ x ≤ 3000) :
    ∃ d, F_level_paper [.tuple (a.map .int), .tuple (b.map .int)] = some d ∧ LP a b d := by
  unfold F_level_paper T_level_paper
  cases hs : (a.sum == b.sum) with
  | false =>
    refine ⟨_, ?_, .inl ⟨hs, rfl⟩⟩
    simp -implicitDefEqProofs only [z_bool_none, z_bool_bool, z_bool_int, z_bool_str, z_bool_list, z_bool_tuple, z_int_none, z_int_bool, z_int_int, z_int_str, z_int_list, z_int_tuple, z_tuple_none, z_tuple_bool, z_tuple_int, z_tuple_str, z_tuple_list, z_tuple_tuple, z_list_none, z_list_bool, z_list_int, z_list_str, z_list_list, z_list_tuple, z_str_none, z_str_bool, z_str_int, z_str_str, z_str_list, z_str_tuple, z_dict_none, z_dict_bool, z_dict_int, z_dict_str, z_dict_list, z_dict_tuple, q_seq, q_thn, q_thr, q_thb, q_thc, q_thro, q_if, q_ift, q_iff, q_nil, q_ret, q_retN, q_set, q_setO, q_setC, q_setW, q_frz, q_frzo, q_frzc, q_frzu, q_frzt, q_frzt', q_frzr, q_V, q_C, q_ow, q_Vc, q_Vo, q_Cc, q_Oo, q_K, q_N, q_aC, q_aC1, q_tup, q_lst, q_L, q_b, q_bb, q_kB, q_kNot, q_kAnd, q_kOr, q_kit, q_kif, q_kot, q_kof, q_eAnd, q_eOr, q_eit, q_eif, q_eot, q_eof, q_eNot, q_notO, q_eIf, q_eIt, q_eIff, q_bin, q_bin1, q_ch, q_ch1, q_ch2, q_ch3t, q_ch3f, q_addI, q_addS, q_addT, q_addL, q_sub, q_mul, q_mulT, q_imul, q_iadd, q_iaddS, q_fdiv, q_mod, q_pow, q_lsh, q_rsh, q_band, q_lt, q_le, q_gt, q_ge, q_eqI, q_neI, q_isB, q_isN, q_isnB, q_isnN, q_neg, q_un, q_revL, q_revT, q_ixL, q_ixT, q_iOf, q_oN, q_oS, q_sl, q_sl1, q_sl2, q_slT, q_slL, q_call, q_cb, q_cf, q_lenL, q_lenT, q_intI, q_intB, q_abs, q_tupL, q_tupT, q_listL, q_listT, q_sort, q_all, q_max2, q_min2, q_sumL, q_sumT, q_isi, q_isO, q_iseq, q_itL, q_itT, q_revF, q_lrv, q_r1, q_r2, q_r2', q_gN, q_gT, q_gTL, q_sAn, q_sAc, q_app, q_app1, q_app2, q_put, q_put1, q_put2, q_put3, q_aug, q_unp, q_unp1, q_nxO, q_par, q_parO, q_run, q_outr, q_outn, start0, Option.bind_some, Option.bind_none, Option.map_some, Option.map_none, List.map_cons, List.map_nil, List.length_cons, List.length_nil, List.replicate_succ, List.replicate_zero, List.cons_append, List.nil_append, List.append_nil, List.getElem?_cons_zero, List.getElem?_cons_succ, List.getElem?_nil, List.set_cons_zero, List.set_cons_succ, chkL_of, chkT_of, Nat.zero_le, Nat.reduceLeDiff, Nat.reduceSub, Nat.reduceAdd, Nat.sub_self, Bool.not_false, Bool.not_true, iL_map, hs]
  | true =>
    have loop := forD_ex (body := fun d E => (gN 2 d E).bind B_level_paper_1) (ok := fun d => match d with | .int k => decide ((a.take k.toNat).sum ≥ (b.take k.toNat).sum) | _ => false) (r := fun d => .tuple [.str ("less" : Str), d]) (fun E => ∃ z, E = [.cl (.tuple (a.map .int)), .cl (.tuple (b.map .int)), z, .un]) (rangeD 1 (a.length - 1)) [.cl (.tuple (a.map .int)), .cl (.tuple (b.map .int)), .un, .un] ⟨_, rfl⟩ (fun d hd E ⟨z, e⟩ => by
      subst e
      unfold rangeD at hd
      obtain ⟨j, hj, rfl⟩ := List.mem_map.mp hd
      rw [show (1 : Int) + (j : Int) = ((j + 1 : Nat) : Int) by omega]
      by_cases hh : (a.take (j + 1)).sum < (b.take (j + 1)).sum
      · refine .inr ⟨decide_eq_false (show ¬ (a.take ((j + 1 : Nat) : Int).toNat).sum ≥ (b.take ((j + 1 : Nat) : Int).toNat).sum by rw [Int.toNat_natCast]; omega), ?_⟩
        unfold B_level_paper_1
        simp -implicitDefEqProofs only [z_bool_none, z_bool_bool, z_bool_int, z_bool_str, z_bool_list, z_bool_tuple, z_int_none, z_int_bool, z_int_int, z_int_str, z_int_list, z_int_tuple, z_tuple_none, z_tuple_bool, z_tuple_int, z_tuple_str, z_tuple_list, z_tuple_tuple, z_list_none, z_list_bool, z_list_int, z_list_str, z_list_list, z_list_tuple, z_str_none, z_str_bool, z_str_int, z_str_str, z_str_list, z_str_tuple, z_dict_none, z_dict_bool, z_dict_int, z_dict_str, z_dict_list, z_dict_tuple, q_seq, q_thn, q_thr, q_thb, q_thc, q_thro, q_if, q_ift, q_iff, q_nil, q_ret, q_retN, q_set, q_setO, q_setC, q_setW, q_frz, q_frzo, q_frzc, q_frzu, q_frzt, q_frzt', q_frzr, q_V, q_C, q_ow, q_Vc, q_Vo, q_Cc, q_Oo, q_K, q_N, q_aC, q_aC1, q_tup, q_lst, q_L, q_b, q_bb, q_kB, q_kNot, q_kAnd, q_kOr, q_kit, q_kif, q_kot, q_kof, q_eAnd, q_eOr, q_eit, q_eif, q_eot, q_eof, q_eNot, q_notO, q_eIf, q_eIt, q_eIff, q_bin, q_bin1, q_ch, q_ch1, q_ch2, q_ch3t, q_ch3f, q_addI, q_addS, q_addT, q_addL, q_sub, q_mul, q_mulT, q_imul, q_iadd, q_iaddS, q_fdiv, q_mod, q_pow, q_lsh, q_rsh, q_band, q_lt, q_le, q_gt, q_ge, q_eqI, q_neI, q_isB, q_isN, q_isnB, q_isnN, q_neg, q_un, q_revL, q_revT, q_ixL, q_ixT, q_iOf, q_oN, q_oS, q_sl, q_sl1, q_sl2, q_slT, q_slL, q_call, q_cb, q_cf, q_lenL, q_lenT, q_intI, q_intB, q_abs, q_tupL, q_tupT, q_listL, q_listT, q_sort, q_all, q_max2, q_min2, q_sumL, q_sumT, q_isi, q_isO, q_iseq, q_itL, q_itT, q_revF, q_lrv, q_r1, q_r2, q_r2', q_gN, q_gT, q_gTL, q_sAn, q_sAc, q_app, q_app1, q_app2, q_put, q_put1, q_put2, q_put3, q_aug, q_unp, q_unp1, q_nxO, q_par, q_parO, q_run, q_outr, q_outn, start0, Option.bind_some, Option.bind_none, Option.map_some, Option.map_none, List.map_cons, List.map_nil, List.length_cons, List.length_nil, List.replicate_succ, List.replicate_zero, List.cons_append, List.nil_append, List.append_nil, List.getElem?_cons_zero, List.getElem?_cons_succ, List.getElem?_nil, List.set_cons_zero, List.set_cons_succ, chkL_of, chkT_of, Nat.zero_le, Nat.reduceLeDiff, Nat.reduceSub, Nat.reduceAdd, Nat.sub_self, Bool.not_false, Bool.not_true, cut_to, ← List.map_take, iL_map, decide_eq_true hh]
      · refine .inl ⟨decide_eq_true (show (a.take ((j + 1 : Nat) : Int).toNat).sum ≥ (b.take ((j + 1 : Nat) : Int).toNat).sum by rw [Int.toNat_natCast]; omega), [.cl (.tuple (a.map .int)), .cl (.tuple (b.map .int)), .cl (.int ((j + 1 : Nat) : Int)), .un], ?_, _, rfl⟩
        unfold B_level_paper_1
        simp -implicitDefEqProofs only [z_bool_none, z_bool_bool, z_bool_int, z_bool_str, z_bool_list, z_bool_tuple, z_int_none, z_int_bool, z_int_int, z_int_str, z_int_list, z_int_tuple, z_tuple_none, z_tuple_bool, z_tuple_int, z_tuple_str, z_tuple_list, z_tuple_tuple, z_list_none, z_list_bool, z_list_int, z_list_str, z_list_list, z_list_tuple, z_str_none, z_str_bool, z_str_int, z_str_str, z_str_list, z_str_tuple, z_dict_none, z_dict_bool, z_dict_int, z_dict_str, z_dict_list, z_dict_tuple, q_seq, q_thn, q_thr, q_thb, q_thc, q_thro, q_if, q_ift, q_iff, q_nil, q_ret, q_retN, q_set, q_setO, q_setC, q_setW, q_frz, q_frzo, q_frzc, q_frzu, q_frzt, q_frzt', q_frzr, q_V, q_C, q_ow, q_Vc, q_Vo, q_Cc, q_Oo, q_K, q_N, q_aC, q_aC1, q_tup, q_lst, q_L, q_b, q_bb, q_kB, q_kNot, q_kAnd, q_kOr, q_kit, q_kif, q_kot, q_kof, q_eAnd, q_eOr, q_eit, q_eif, q_eot, q_eof, q_eNot, q_notO, q_eIf, q_eIt, q_eIff, q_bin, q_bin1, q_ch, q_ch1, q_ch2, q_ch3t, q_ch3f, q_addI, q_addS, q_addT, q_addL, q_sub, q_mul, q_mulT, q_imul, q_iadd, q_iaddS, q_fdiv, q_mod, q_pow, q_lsh, q_rsh, q_band, q_lt, q_le, q_gt, q_ge, q_eqI, q_neI, q_isB, q_isN, q_isnB, q_isnN, q_neg, q_un, q_revL, q_revT, q_ixL, q_ixT, q_iOf, q_oN, q_oS, q_sl, q_sl1, q_sl2, q_slT, q_slL, q_call, q_cb, q_cf, q_lenL, q_lenT, q_intI, q_intB, q_abs, q_tupL, q_tupT, q_listL, q_listT, q_sort, q_all, q_max2, q_min2, q_sumL, q_sumT, q_isi, q_isO, q_iseq, q_itL, q_itT, q_revF, q_lrv, q_r1, q_r2, q_r2', q_gN, q_gT, q_gTL, q_sAn, q_sAc, q_app, q_app1, q_app2, q_put, q_put1, q_put2, q_put3, q_aug, q_unp, q_unp1, q_nxO, q_par, q_parO, q_run, q_outr, q_outn, start0, Option.bind_some, Option.bind_none, Option.map_some, Option.map_none, List.map_cons, List.map_nil, List.length_cons, List.length_nil, List.replicate_succ, List.replicate_zero, List.cons_append, List.nil_append, List.append_nil, List.getElem?_cons_zero, List.getElem?_cons_succ, List.getElem?_nil, List.set_cons_zero, List.set_cons_succ, chkL_of, chkT_of, Nat.zero_le, Nat.reduceLeDiff, Nat.reduceSub, Nat.reduceAdd, Nat.sub_self, Bool.not_false, Bool.not_true, cut_to, ← List.map_take, iL_map, decide_eq_false hh])
    have e1 : L_level_paper_1 [.cl (.tuple (a.map .int)), .cl (.tuple (b.map .int)), .un, .un] = forD (fun d E => (gN 2 d E).bind B_level_paper_1) (rangeD 1 (a.length - 1)) [.cl (.tuple (a.map .int)), .cl (.tuple (b.map .int)), .un, .un] := by
      unfold L_level_paper_1 sFor
      have er : iRange2 (eK (.int 1)) (eCb dLen (aC (eV 0) aN)) [.cl (.tuple (a.map .int)), .cl (.tuple (b.map .int)), .un, .un] = some (rangeD 1 (a.length - 1)) := by
        simp -implicitDefEqProofs only [z_bool_none, z_bool_bool, z_bool_int, z_bool_str, z_bool_list, z_bool_tuple, z_int_none, z_int_bool, z_int_int, z_int_str, z_int_list, z_int_tuple, z_tuple_none, z_tuple_bool, z_tuple_int, z_tuple_str, z_tuple_list, z_tuple_tuple, z_list_none, z_list_bool, z_list_int, z_list_str, z_list_list, z_list_tuple, z_str_none, z_str_bool, z_str_int, z_str_str, z_str_list, z_str_tuple, z_dict_none, z_dict_bool, z_dict_int, z_dict_str, z_dict_list, z_dict_tuple, q_seq, q_thn, q_thr, q_thb, q_thc, q_thro, q_if, q_ift, q_iff, q_nil, q_ret, q_retN, q_set, q_setO, q_setC, q_setW, q_frz, q_frzo, q_frzc, q_frzu, q_frzt, q_frzt', q_frzr, q_V, q_C, q_ow, q_Vc, q_Vo, q_Cc, q_Oo, q_K, q_N, q_aC, q_aC1, q_tup, q_lst, q_L, q_b, q_bb, q_kB, q_kNot, q_kAnd, q_kOr, q_kit, q_kif, q_kot, q_kof, q_eAnd, q_eOr, q_eit, q_eif, q_eot, q_eof, q_eNot, q_notO, q_eIf, q_eIt, q_eIff, q_bin, q_bin1, q_ch, q_ch1, q_ch2, q_ch3t, q_ch3f, q_addI, q_addS, q_addT, q_addL, q_sub, q_mul, q_mulT, q_imul, q_iadd, q_iaddS, q_fdiv, q_mod, q_pow, q_lsh, q_rsh, q_band, q_lt, q_le, q_gt, q_ge, q_eqI, q_neI, q_isB, q_isN, q_isnB, q_isnN, q_neg, q_un, q_revL, q_revT, q_ixL, q_ixT, q_iOf, q_oN, q_oS, q_sl, q_sl1, q_sl2, q_slT, q_slL, q_call, q_cb, q_cf, q_lenL, q_lenT, q_intI, q_intB, q_abs, q_tupL, q_tupT, q_listL, q_listT, q_sort, q_all, q_max2, q_min2, q_sumL, q_sumT, q_isi, q_isO, q_iseq, q_itL, q_itT, q_revF, q_lrv, q_r1, q_r2, q_r2', q_gN, q_gT, q_gTL, q_sAn, q_sAc, q_app, q_app1, q_app2, q_put, q_put1, q_put2, q_put3, q_aug, q_unp, q_unp1, q_nxO, q_par, q_parO, q_run, q_outr, q_outn, start0, Option.bind_some, Option.bind_none, Option.map_some, Option.map_none, List.map_cons, List.map_nil, List.length_cons, List.length_nil, List.replicate_succ, List.replicate_zero, List.cons_append, List.nil_append, List.append_nil, List.getElem?_cons_zero, List.getElem?_cons_succ, List.getElem?_nil, List.set_cons_zero, List.set_cons_succ, chkL_of, chkT_of, Nat.zero_le, Nat.reduceLeDiff, Nat.reduceSub, Nat.reduceAdd, Nat.sub_self, Bool.not_false, Bool.not_true, List.length_map, rngD_of (m := 1) (n := (a.length : Int)) (by omega) (by omega) (by omega) (by omega), show ((a.length : Int) - 1).toNat = a.length - 1 by omega]
      rw [er]
      rfl
    rcases loop with ⟨hall, E', e, z, rfl⟩ | ⟨d, hd, hno, e⟩
    · rw [List.all_eq_true] at hall
      have pre : ∀ k, 1 ≤ k → k < a.length → (b.take k).sum ≤ (a.take k).sum := fun k g1 g2 => by
        have := hall (.int (k : Nat)) (by
          unfold rangeD
          refine List.mem_map.mpr ⟨k - 1, List.mem_range.mpr (by omega), ?_⟩
          rw [show (1 : Int) + ((k - 1 : Nat) : Int) = (k : Nat) by omega])
        have this : decide ((a.take ((k : Nat) : Int).toNat).sum ≥ (b.take ((k : Nat) : Int).toNat).sum) = true := this
        rw [Int.toNat_natCast] at this
        exact of_decide_eq_true this
      have hsum := beq_iff_eq.mp hs
      have O : Ov a b := ⟨hb.symm, fa, fb, fun k hk => by
        by_cases g0 : k = 0
        · subst g0
          simp
        · by_cases g1 : k = a.length
          · subst g1
            rw [sum_all, ← hb, sum_all, hsum]
            exact Int.le_refl _
          · exact pre k (by omega) (by omega), by rw [sum_all, ← hb, sum_all, hsum]⟩
      have hov : overB a b = true := by
        unfold overB
        rw [hs, Bool.true_and, List.all_eq_true]
        intro j hj
        have hj := List.mem_range.mp hj
        exact decide_eq_true (pre (j + 1) (by omega) (by omega))
      have P0 : Pth a b [a] := ⟨Nat.le_refl _, rfl, fun r hr => by
        rw [List.mem_singleton.mp hr]
        exact O, fun k hk => by
        rw [List.length_singleton] at hk
        omega⟩
      have ma := msum_bd (a := a) h6 ba (b.length + 1) (by omega)
      have mb := msum_bd (a := b) (by omega) bb (b.length + 1) (by omega)
      have hst : (msum a (b.length + 1) - msum b (b.length + 1)).toNat ≤ 300000 := by omega
      obtain ⟨vs', P2, g2, g3, g4⟩ := level_while (a := a) (b := b) (by omega) z W_level_paper [a] P0 (by
        show (msum a (b.length + 1) - msum b (b.length + 1)).toNat < W_level_paper
        exact Nat.lt_of_le_of_lt hst (by unfold W_level_paper; decide)) (by
        show 1 + (msum a (b.length + 1) - msum b (b.length + 1)).toNat ≤ 900000
        omega)
      refine ⟨_, ?_, .inr (.inr ⟨hov, vs', P2, g2, ⟨Nat.le_trans g3 (show 1 + (msum a (b.length + 1) - msum b (b.length + 1)).toNat ≤ 900000 by omega), g3, O⟩, rfl⟩)⟩
      have e2 : L_level_paper_2 [.cl (.tuple (a.map .int)), .cl (.tuple (b.map .int)), z, .ow [.tuple (a.map .int)]] = some (.nx [.cl (.tuple (a.map .int)), .cl (.tuple (b.map .int)), z, .ow (vs'.map fun r => PyData.tuple (r.map .int))]) := g4
      rw [e] at e1
      simp -implicitDefEqProofs only [z_bool_none, z_bool_bool, z_bool_int, z_bool_str, z_bool_list, z_bool_tuple, z_int_none, z_int_bool, z_int_int, z_int_str, z_int_list, z_int_tuple, z_tuple_none, z_tuple_bool, z_tuple_int, z_tuple_str, z_tuple_list, z_tuple_tuple, z_list_none, z_list_bool, z_list_int, z_list_str, z_list_list, z_list_tuple, z_str_none, z_str_bool, z_str_int, z_str_str, z_str_list, z_str_tuple, z_dict_none, z_dict_bool, z_dict_int, z_dict_str, z_dict_list, z_dict_tuple, q_seq, q_thn, q_thr, q_thb, q_thc, q_thro, q_if, q_ift, q_iff, q_nil, q_ret, q_retN, q_set, q_setO, q_setC, q_setW, q_frz, q_frzo, q_frzc, q_frzu, q_frzt, q_frzt', q_frzr, q_V, q_C, q_ow, q_Vc, q_Vo, q_Cc, q_Oo, q_K, q_N, q_aC, q_aC1, q_tup, q_lst, q_L, q_b, q_bb, q_kB, q_kNot, q_kAnd, q_kOr, q_kit, q_kif, q_kot, q_kof, q_eAnd, q_eOr, q_eit, q_eif, q_eot, q_eof, q_eNot, q_notO, q_eIf, q_eIt, q_eIff, q_bin, q_bin1, q_ch, q_ch1, q_ch2, q_ch3t, q_ch3f, q_addI, q_addS, q_addT, q_addL, q_sub, q_mul, q_mulT, q_imul, q_iadd, q_iaddS, q_fdiv, q_mod, q_pow, q_lsh, q_rsh, q_band, q_lt, q_le, q_gt, q_ge, q_eqI, q_neI, q_isB, q_isN, q_isnB, q_isnN, q_neg, q_un, q_revL, q_revT, q_ixL, q_ixT, q_iOf, q_oN, q_oS, q_sl, q_sl1, q_sl2, q_slT, q_slL, q_call, q_cb, q_cf, q_lenL, q_lenT, q_intI, q_intB, q_abs, q_tupL, q_tupT, q_listL, q_listT, q_sort, q_all, q_max2, q_min2, q_sumL, q_sumT, q_isi, q_isO, q_iseq, q_itL, q_itT, q_revF, q_lrv, q_r1, q_r2, q_r2', q_gN, q_gT, q_gTL, q_sAn, q_sAc, q_app, q_app1, q_app2, q_put, q_put1, q_put2, q_put3, q_aug, q_unp, q_unp1, q_nxO, q_par, q_parO, q_run, q_outr, q_outn, start0, Option.bind_some, Option.bind_none, Option.map_some, Option.map_none, List.map_cons, List.map_nil, List.length_cons, List.length_nil, List.replicate_succ, List.replicate_zero, List.cons_append, List.nil_append, List.append_nil, List.getElem?_cons_zero, List.getElem?_cons_succ, List.getElem?_nil, List.set_cons_zero, List.set_cons_succ, chkL_of, chkT_of, Nat.zero_le, Nat.reduceLeDiff, Nat.reduceSub, Nat.reduceAdd, Nat.sub_self, Bool.not_false, Bool.not_true, iL_map, hs, e1, e2]
    · unfold rangeD at hd
      obtain ⟨j, hj, rfl⟩ := List.mem_map.mp hd
      have hj := List.mem_range.mp hj
      rw [show (1 : Int) + (j : Int) = ((j + 1 : Nat) : Int) by omega] at hno e
      have hno : decide ((a.take (((j + 1 : Nat) : Int)).toNat).sum ≥ (b.take (((j + 1 : Nat) : Int)).toNat).sum) = false := hno
      rw [Int.toNat_natCast] at hno
      have hno := of_decide_eq_false hno
      refine ⟨_, ?_, .inr (.inl ⟨hs, j + 1, by omega, by omega, by omega, rfl⟩)⟩
      rw [e] at e1
      simp -implicitDefEqProofs only [z_bool_none, z_bool_bool, z_bool_int, z_bool_str, z_bool_list, z_bool_tuple, z_int_none, z_int_bool, z_int_int, z_int_str, z_int_list, z_int_tuple, z_tuple_none, z_tuple_bool, z_tuple_int, z_tuple_str, z_tuple_list, z_tuple_tuple, z_list_none, z_list_bool, z_list_int, z_list_str, z_list_list, z_list_tuple, z_str_none, z_str_bool, z_str_int, z_str_str, z_str_list, z_str_tuple, z_dict_none, z_dict_bool, z_dict_int, z_dict_str, z_dict_list, z_dict_tuple, q_seq, q_thn, q_thr, q_thb, q_thc, q_thro, q_if, q_ift, q_iff, q_nil, q_ret, q_retN, q_set, q_setO, q_setC, q_setW, q_frz, q_frzo, q_frzc, q_frzu, q_frzt, q_frzt', q_frzr, q_V, q_C, q_ow, q_Vc, q_Vo, q_Cc, q_Oo, q_K, q_N, q_aC, q_aC1, q_tup, q_lst, q_L, q_b, q_bb, q_kB, q_kNot, q_kAnd, q_kOr, q_kit, q_kif, q_kot, q_kof, q_eAnd, q_eOr, q_eit, q_eif, q_eot, q_eof, q_eNot, q_notO, q_eIf, q_eIt, q_eIff, q_bin, q_bin1, q_ch, q_ch1, q_ch2, q_ch3t, q_ch3f, q_addI, q_addS, q_addT, q_addL, q_sub, q_mul, q_mulT, q_imul, q_iadd, q_iaddS, q_fdiv, q_mod, q_pow, q_lsh, q_rsh, q_band, q_lt, q_le, q_gt, q_ge, q_eqI, q_neI, q_isB, q_isN, q_isnB, q_isnN, q_neg, q_un, q_revL, q_revT, q_ixL, q_ixT, q_iOf, q_oN, q_oS, q_sl, q_sl1, q_sl2, q_slT, q_slL, q_call, q_cb, q_cf, q_lenL, q_lenT, q_intI, q_intB, q_abs, q_tupL, q_tupT, q_listL, q_listT, q_sort, q_all, q_max2, q_min2, q_sumL, q_sumT, q_isi, q_isO, q_iseq, q_itL, q_itT, q_revF, q_lrv, q_r1, q_r2, q_r2', q_gN, q_gT, q_gTL, q_sAn, q_sAc, q_app, q_app1, q_app2, q_put, q_put1, q_put2, q_put3, q_aug, q_unp, q_unp1, q_nxO, q_par, q_parO, q_run, q_outr, q_outn, start0, Option.bind_some, Option.bind_none, Option.map_some, Option.map_none, List.map_cons, List.map_nil, List.length_cons, List.length_nil, List.replicate_succ, List.replicate_zero, List.cons_append, List.nil_append, List.append_nil, List.getElem?_cons_zero, List.getElem?_cons_succ, List.getElem?_nil, List.set_cons_zero, List.set_cons_succ, chkL_of, chkT_of, Nat.zero_le, Nat.reduceLeDiff, Nat.reduceSub, Nat.reduceAdd, Nat.sub_self, Bool.not_false, Bool.not_true, iL_map, hs, e1]

theorem ok_level_paper {f : Addr} {fd : FuncData} {k : Nat} (B : Bt mg) (D : Fun K "level_paper" "level_paper" s_level_paper f fd) (C_next_move : Cl P w K mg base k "next_move" 2 F_next_move) :
    FnOk P w K mg base CX0 (k + 1) f fd ["a", "b"] (spD K ["a", "b"].length (runD N_level_paper.length T_level_paper)) := by
  have nd := sc_level_paper.nd
  refine fnD D sc_level_paper fun cdv A outer s H E hr => ?_
  exact (dss_cons (ds_if (dt_cmp (o_ne hr) (de_cb (c_sum rfl) B.sum (das_cons (dv 0) das_nil)).s (de_cb (c_sum rfl) B.sum (das_cons (dv 1) das_nil)).s)
  (dss_one (ds_ret (dtup (da_cons dstr da_nil))))
  dss_nil)
  (dss_cons (ds_for PassesOwn.never rfl (di_range2 B.range dint.s (de_cb c_len B.len (das_cons (dv 0) das_nil)).s) (dg_name 2 nd)
  (dss_one (ds_if (dt_cmp o_lt (de_cb (c_sum rfl) B.sum (das_cons (de_sl (dv 0) do_n (do_s (dv 2))).s das_nil)).s (de_cb (c_sum rfl) B.sum (das_cons (de_sl (dv 1) do_n (do_s (dv 2))).s das_nil)).s)
  (dss_one (ds_ret (dtup (da_cons dstr (da_cons (dc 2) da_nil)))))
  dss_nil)))
  (dss_cons (ds_setO 3 nd (dlst (da_cons (dc 0) da_nil)))
  (dss_cons (ds_while W_level_paper PassesOwn.never (dt_cmp (o_ne hr) (de_ix (dv 3) (de_neg dint.s).s).s (dv 1))
  (dss_one (ds_app 3 (de_call (C_next_move.fc hr (Nat.le_refl _)) (da_cons (de_ix (dv 3) (de_neg dint.s).s) (da_cons (dc 1) da_nil))))))
  (dss_one (ds_frz 3 (ds_ret (dtup (da_cons dstr (da_cons (de_ct c_tup B.tuple (das_cons (dv 3) das_nil)) da_nil))))))))))

/-! is_move -/
abbrev s_is_move : Stmt := topS 15
abbrev N_is_move : List Str := ["one", "two", "changes", "k"]
theorem sc_is_move : FnScope N_is_move ["one", "two"] (defScope s_is_move) := ⟨rfl, rfl, rfl, by decide +kernel, rfl, by decide +kernel, by decide +kernel⟩
def Q_is_move_1 : En → Option (List PyData) := eLc (iRange1 (eCb dLen (aC (eV 0) aN))) [3] (gN 3) (kB (eBin dNe (eBin dIx (eV 1) (eV 3)) (eBin dIx (eV 0) (eV 3)))) (eBin dSub (eBin dIx (eV 1) (eV 3)) (eBin dIx (eV 0) (eV 3)))
def T_is_move : En → Option Ou :=
  (sSeq (sSet 2 (eL Q_is_move_1))
  (sRet (eBin dEq (eV 2) (eL (eLst (aC (eUn dNeg (eK (.int 1))) (aC (eK (.int 1)) aN)))))))

def F_is_move : List PyData → Option PyData := runD N_is_move.length T_is_move
theorem fix_is_move : ∀ ds d, ds.length = 2 → F_is_move ds = some d → runD N_is_move.length T_is_move ds = some d := fun _ _ _ h => h

theorem is_move_e {one two : List Int} (h : one.length ≤ 1000) (hl : two.length = one.length) : F_is_move [.tuple (one.map .int), .tuple (two.map .int)] = some (.bool (mvB one two)) := by
  have q : Q_is_move_1 [.cl (.tuple (one.map .int)), .cl (.tuple (two.map .int)), .un, .un] = some ((chgL one two).map .int) := by
    unfold Q_is_move_1 eLc chgL
    rw [List.map_map]
    simp -implicitDefEqProofs only [z_bool_none, z_bool_bool, z_bool_int, z_bool_str, z_bool_list, z_bool_tuple, z_int_none, z_int_bool, z_int_int, z_int_str, z_int_list, z_int_tuple, z_tuple_none, z_tuple_bool, z_tuple_int, z_tuple_str, z_tuple_list, z_tuple_tuple, z_list_none, z_list_bool, z_list_int, z_list_str, z_list_list, z_list_tuple, z_str_none, z_str_bool, z_str_int, z_str_str, z_str_list, z_str_tuple, z_dict_none, z_dict_bool, z_dict_int, z_dict_str, z_dict_list, z_dict_tuple, q_seq, q_thn, q_thr, q_thb, q_thc, q_thro, q_if, q_ift, q_iff, q_nil, q_ret, q_retN, q_set, q_setO, q_setC, q_setW, q_frz, q_frzo, q_frzc, q_frzu, q_frzt, q_frzt', q_frzr, q_V, q_C, q_ow, q_Vc, q_Vo, q_Cc, q_Oo, q_K, q_N, q_aC, q_aC1, q_tup, q_lst, q_L, q_b, q_bb, q_kB, q_kNot, q_kAnd, q_kOr, q_kit, q_kif, q_kot, q_kof, q_eAnd, q_eOr, q_eit, q_eif, q_eot, q_eof, q_eNot, q_notO, q_eIf, q_eIt, q_eIff, q_bin, q_bin1, q_ch, q_ch1, q_ch2, q_ch3t, q_ch3f, q_addI, q_addS, q_addT, q_addL, q_sub, q_mul, q_mulT, q_imul, q_iadd, q_iaddS, q_fdiv, q_mod, q_pow, q_lsh, q_rsh, q_band, q_lt, q_le, q_gt, q_ge, q_eqI, q_neI, q_isB, q_isN, q_isnB, q_isnN, q_neg, q_un, q_revL, q_revT, q_ixL, q_ixT, q_iOf, q_oN, q_oS, q_sl, q_sl1, q_sl2, q_slT, q_slL, q_call, q_cb, q_cf, q_lenL, q_lenT, q_intI, q_intB, q_abs, q_tupL, q_tupT, q_listL, q_listT, q_sort, q_all, q_max2, q_min2, q_sumL, q_sumT, q_isi, q_isO, q_iseq, q_itL, q_itT, q_revF, q_lrv, q_r1, q_r2, q_r2', q_gN, q_gT, q_gTL, q_sAn, q_sAc, q_app, q_app1, q_app2, q_put, q_put1, q_put2, q_put3, q_aug, q_unp, q_unp1, q_nxO, q_par, q_parO, q_run, q_outr, q_outn, start0, Option.bind_some, Option.bind_none, Option.map_some, Option.map_none, List.map_cons, List.map_nil, List.length_cons, List.length_nil, List.replicate_succ, List.replicate_zero, List.cons_append, List.nil_append, List.append_nil, List.getElem?_cons_zero, List.getElem?_cons_succ, List.getElem?_nil, List.set_cons_zero, List.set_cons_succ, chkL_of, chkT_of, Nat.zero_le, Nat.reduceLeDiff, Nat.reduceSub, Nat.reduceAdd, Nat.sub_self, Bool.not_false, Bool.not_true, List.length_map, rngD_of (m := 0) (n := (one.length : Int)) (by omega) (by omega) (by omega) (by omega), Int.sub_zero, Int.toNat_natCast]
    rw [chkL_of (by rw [rangeD_length]; omega), Option.bind_some]
    unfold rangeD
    refine lcD_filter (List.range one.length) fun j hj => ?_
    have hj := List.mem_range.mp hj
    unfold lcT
    rw [Int.zero_add]
    simp only [wipeE, List.set_cons_zero, List.set_cons_succ]
    cases hc : (two.getD j 0 == one.getD j 0) with
    | true =>
      simp -implicitDefEqProofs only [z_bool_none, z_bool_bool, z_bool_int, z_bool_str, z_bool_list, z_bool_tuple, z_int_none, z_int_bool, z_int_int, z_int_str, z_int_list, z_int_tuple, z_tuple_none, z_tuple_bool, z_tuple_int, z_tuple_str, z_tuple_list, z_tuple_tuple, z_list_none, z_list_bool, z_list_int, z_list_str, z_list_list, z_list_tuple, z_str_none, z_str_bool, z_str_int, z_str_str, z_str_list, z_str_tuple, z_dict_none, z_dict_bool, z_dict_int, z_dict_str, z_dict_list, z_dict_tuple, q_seq, q_thn, q_thr, q_thb, q_thc, q_thro, q_if, q_ift, q_iff, q_nil, q_ret, q_retN, q_set, q_setO, q_setC, q_setW, q_frz, q_frzo, q_frzc, q_frzu, q_frzt, q_frzt', q_frzr, q_V, q_C, q_ow, q_Vc, q_Vo, q_Cc, q_Oo, q_K, q_N, q_aC, q_aC1, q_tup, q_lst, q_L, q_b, q_bb, q_kB, q_kNot, q_kAnd, q_kOr, q_kit, q_kif, q_kot, q_kof, q_eAnd, q_eOr, q_eit, q_eif, q_eot, q_eof, q_eNot, q_notO, q_eIf, q_eIt, q_eIff, q_bin, q_bin1, q_ch, q_ch1, q_ch2, q_ch3t, q_ch3f, q_addI, q_addS, q_addT, q_addL, q_sub, q_mul, q_mulT, q_imul, q_iadd, q_iaddS, q_fdiv, q_mod, q_pow, q_lsh, q_rsh, q_band, q_lt, q_le, q_gt, q_ge, q_eqI, q_neI, q_isB, q_isN, q_isnB, q_isnN, q_neg, q_un, q_revL, q_revT, q_ixL, q_ixT, q_iOf, q_oN, q_oS, q_sl, q_sl1, q_sl2, q_slT, q_slL, q_call, q_cb, q_cf, q_lenL, q_lenT, q_intI, q_intB, q_abs, q_tupL, q_tupT, q_listL, q_listT, q_sort, q_all, q_max2, q_min2, q_sumL, q_sumT, q_isi, q_isO, q_iseq, q_itL, q_itT, q_revF, q_lrv, q_r1, q_r2, q_r2', q_gN, q_gT, q_gTL, q_sAn, q_sAc, q_app, q_app1, q_app2, q_put, q_put1, q_put2, q_put3, q_aug, q_unp, q_unp1, q_nxO, q_par, q_parO, q_run, q_outr, q_outn, start0, Option.bind_some, Option.bind_none, Option.map_some, Option.map_none, List.map_cons, List.map_nil, List.length_cons, List.length_nil, List.replicate_succ, List.replicate_zero, List.cons_append, List.nil_append, List.append_nil, List.getElem?_cons_zero, List.getElem?_cons_succ, List.getElem?_nil, List.set_cons_zero, List.set_cons_succ, chkL_of, chkT_of, Nat.zero_le, Nat.reduceLeDiff, Nat.reduceSub, Nat.reduceAdd, Nat.sub_self, Bool.not_false, Bool.not_true, atI_getD hj, atI_getD (show j < two.length by omega), hc]
      rfl
    | false =>
      simp -implicitDefEqProofs only [z_bool_none, z_bool_bool, z_bool_int, z_bool_str, z_bool_list, z_bool_tuple, z_int_none, z_int_bool, z_int_int, z_int_str, z_int_list, z_int_tuple, z_tuple_none, z_tuple_bool, z_tuple_int, z_tuple_str, z_tuple_list, z_tuple_tuple, z_list_none, z_list_bool, z_list_int, z_list_str, z_list_list, z_list_tuple, z_str_none, z_str_bool, z_str_int, z_str_str, z_str_list, z_str_tuple, z_dict_none, z_dict_bool, z_dict_int, z_dict_str, z_dict_list, z_dict_tuple, q_seq, q_thn, q_thr, q_thb, q_thc, q_thro, q_if, q_ift, q_iff, q_nil, q_ret, q_retN, q_set, q_setO, q_setC, q_setW, q_frz, q_frzo, q_frzc, q_frzu, q_frzt, q_frzt', q_frzr, q_V, q_C, q_ow, q_Vc, q_Vo, q_Cc, q_Oo, q_K, q_N, q_aC, q_aC1, q_tup, q_lst, q_L, q_b, q_bb, q_kB, q_kNot, q_kAnd, q_kOr, q_kit, q_kif, q_kot, q_kof, q_eAnd, q_eOr, q_eit, q_eif, q_eot, q_eof, q_eNot, q_notO, q_eIf, q_eIt, q_eIff, q_bin, q_bin1, q_ch, q_ch1, q_ch2, q_ch3t, q_ch3f, q_addI, q_addS, q_addT, q_addL, q_sub, q_mul, q_mulT, q_imul, q_iadd, q_iaddS, q_fdiv, q_mod, q_pow, q_lsh, q_rsh, q_band, q_lt, q_le, q_gt, q_ge, q_eqI, q_neI, q_isB, q_isN, q_isnB, q_isnN, q_neg, q_un, q_revL, q_revT, q_ixL, q_ixT, q_iOf, q_oN, q_oS, q_sl, q_sl1, q_sl2, q_slT, q_slL, q_call, q_cb, q_cf, q_lenL, q_lenT, q_intI, q_intB, q_abs, q_tupL, q_tupT, q_listL, q_listT, q_sort, q_all, q_max2, q_min2, q_sumL, q_sumT, q_isi, q_isO, q_iseq, q_itL, q_itT, q_revF, q_lrv, q_r1, q_r2, q_r2', q_gN, q_gT, q_gTL, q_sAn, q_sAc, q_app, q_app1, q_app2, q_put, q_put1, q_put2, q_put3, q_aug, q_unp, q_unp1, q_nxO, q_par, q_parO, q_run, q_outr, q_outn, start0, Option.bind_some, Option.bind_none, Option.map_some, Option.map_none, List.map_cons, List.map_nil, List.length_cons, List.length_nil, List.replicate_succ, List.replicate_zero, List.cons_append, List.nil_append, List.append_nil, List.getElem?_cons_zero, List.getElem?_cons_succ, List.getElem?_nil, List.set_cons_zero, List.set_cons_succ, chkL_of, chkT_of, Nat.zero_le, Nat.reduceLeDiff, Nat.reduceSub, Nat.reduceAdd, Nat.sub_self, Bool.not_false, Bool.not_true, atI_getD hj, atI_getD (show j < two.length by omega), hc]
      rfl
  have hd := dEq_intL (chgL one two) [-1, 1]
  have hd' : dEq (.list ((chgL one two).map .int)) (.list [.int (-1), .int 1]) = some (.bool (mvB one two)) := hd
  unfold F_is_move T_is_move
  simp -implicitDefEqProofs only [z_bool_none, z_bool_bool, z_bool_int, z_bool_str, z_bool_list, z_bool_tuple, z_int_none, z_int_bool, z_int_int, z_int_str, z_int_list, z_int_tuple, z_tuple_none, z_tuple_bool, z_tuple_int, z_tuple_str, z_tuple_list, z_tuple_tuple, z_list_none, z_list_bool, z_list_int, z_list_str, z_list_list, z_list_tuple, z_str_none, z_str_bool, z_str_int, z_str_str, z_str_list, z_str_tuple, z_dict_none, z_dict_bool, z_dict_int, z_dict_str, z_dict_list, z_dict_tuple, q_seq, q_thn, q_thr, q_thb, q_thc, q_thro, q_if, q_ift, q_iff, q_nil, q_ret, q_retN, q_set, q_setO, q_setC, q_setW, q_frz, q_frzo, q_frzc, q_frzu, q_frzt, q_frzt', q_frzr, q_V, q_C, q_ow, q_Vc, q_Vo, q_Cc, q_Oo, q_K, q_N, q_aC, q_aC1, q_tup, q_lst, q_L, q_b, q_bb, q_kB, q_kNot, q_kAnd, q_kOr, q_kit, q_kif, q_kot, q_kof, q_eAnd, q_eOr, q_eit, q_eif, q_eot, q_eof, q_eNot, q_notO, q_eIf, q_eIt, q_eIff, q_bin, q_bin1, q_ch, q_ch1, q_ch2, q_ch3t, q_ch3f, q_addI, q_addS, q_addT, q_addL, q_sub, q_mul, q_mulT, q_imul, q_iadd, q_iaddS, q_fdiv, q_mod, q_pow, q_lsh, q_rsh, q_band, q_lt, q_le, q_gt, q_ge, q_eqI, q_neI, q_isB, q_isN, q_isnB, q_isnN, q_neg, q_un, q_revL, q_revT, q_ixL, q_ixT, q_iOf, q_oN, q_oS, q_sl, q_sl1, q_sl2, q_slT, q_slL, q_call, q_cb, q_cf, q_lenL, q_lenT, q_intI, q_intB, q_abs, q_tupL, q_tupT, q_listL, q_listT, q_sort, q_all, q_max2, q_min2, q_sumL, q_sumT, q_isi, q_isO, q_iseq, q_itL, q_itT, q_revF, q_lrv, q_r1, q_r2, q_r2', q_gN, q_gT, q_gTL, q_sAn, q_sAc, q_app, q_app1, q_app2, q_put, q_put1, q_put2, q_put3, q_aug, q_unp, q_unp1, q_nxO, q_par, q_parO, q_run, q_outr, q_outn, start0, Option.bind_some, Option.bind_none, Option.map_some, Option.map_none, List.map_cons, List.map_nil, List.length_cons, List.length_nil, List.replicate_succ, List.replicate_zero, List.cons_append, List.nil_append, List.append_nil, List.getElem?_cons_zero, List.getElem?_cons_succ, List.getElem?_nil, List.set_cons_zero, List.set_cons_succ, chkL_of, chkT_of, Nat.zero_le, Nat.reduceLeDiff, Nat.reduceSub, Nat.reduceAdd, Nat.sub_self, Bool.not_false, Bool.not_true, q, hd']

theorem ok_is_move {f : Addr} {fd : FuncData} {k : Nat} (B : Bt mg) (D : Fun K "is_move" "is_move" s_is_move f fd) :
    FnOk P w K mg base CX0 (k + 1) f fd ["one", "two"] (spD K ["one", "two"].length (runD N_is_move.length T_is_move)) := by
  have nd := sc_is_move.nd
  refine fnD D sc_is_move fun cdv A outer s H E hr => ?_
  exact (dss_cons (ds_setLc 2 ([("k", 3)] : List (Str × Nat)) rfl nd (di_range1 B.range (de_cb c_len B.len (das_cons (dv 0) das_nil)).s) (blkOk_by (N := N_is_move) (sc := (defScope s_is_move)) (scope := mkS [(".0", .local), ("k", .local), ("one", .free), ("two", .free)]) (by decide +kernel)) (dgr_name 3) (fun _ _ _ _ _ => dg_name 3 nd) (fun _ _ _ _ _ => dts_one (dt_cmp (o_ne hr) (de_ix (dv 1) (dv 3)).s (de_ix (dv 0) (dv 3)).s)) (fun _ _ _ _ _ => (de_bin o_sub (de_ix (dv 1) (dv 3)).s (de_ix (dv 0) (dv 3)).s)) (sw_true rfl rfl rfl (by decide +kernel)))
  (dss_one (ds_ret (de_cmp (o_eq hr) (dv 2) (dlst (da_cons (de_neg dint.s) (da_cons dint da_nil))).s))))

/-! is_moves -/
abbrev s_is_moves : Stmt := topS 16
abbrev N_is_moves : List Str := ["a", "b", "value", "k", "row"]
theorem sc_is_moves : FnScope N_is_moves ["a", "b", "value"] (defScope s_is_moves) := ⟨rfl, rfl, rfl, by decide +kernel, rfl, by decide +kernel, by decide +kernel⟩
def Q_is_moves_1 : En → Option (List PyData) := eLc (iSeq (eC 2)) [4] (gN 4) (fun _ => some true) (eAnd (eCall F_is_row (aC (eC 4) aN)) (eBin dEq (eCb dLen (aC (eV 4) aN)) (eCb dLen (aC (eV 0) aN))))
def Q_is_moves_2 : En → Option (List PyData) := eLc (iRange1 (eBin dSub (eCb dLen (aC (eV 2) aN)) (eK (.int 1)))) [3] (gN 3) (fun _ => some true) (eCall F_is_move (aC (eBin dIx (eV 2) (eV 3)) (aC (eBin dIx (eV 2) (eBin dAdd (eV 3) (eK (.int 1)))) aN)))
def T_is_moves : En → Option Ou :=
  (sSeq (sIf (kOr (kNot (kB (eIsi "tuple" (eV 2)))) (kB (eBin dEq (eCb dLen (aC (eV 2) aN)) (eK (.int 0)))))
  (sRet (eK (.bool false)))
  sNil)
  (sSeq (sIf (kOr (kNot (kB (eCb dAll (aC (eL Q_is_moves_1) aN)))) (kOr (kB (eBin dNe (eBin dIx (eV 2) (eK (.int 0))) (eV 0))) (kB (eBin dNe (eBin dIx (eV 2) (eUn dNeg (eK (.int 1)))) (eV 1)))))
  (sRet (eK (.bool false)))
  sNil)
  (sRet (eCb dAll (aC (eL Q_is_moves_2) aN)))))

def F_is_moves : List PyData → Option PyData := runD N_is_moves.length T_is_moves
theorem fix_is_moves : ∀ ds d, ds.length = 3 → F_is_moves ds = some d → runD N_is_moves.length T_is_moves ds = some d := fun _ _ _ h => h

theorem is_moves_e {a b : List Int} (h6 : a.length ≤ 1000) {d : PyData} (h : ndD d = true) : F_is_moves [.tuple (a.map .int), .tuple (b.map .int), d] = some (.bool (movesB a b d)) := by
  unfold F_is_moves T_is_moves
  cases d with
  | dict kvs => cases h
  | tuple ds =>
    obtain ⟨hl, hm⟩ := ndD_tup.mp h
    by_cases hz : 1 ≤ ds.length
    · have hz0 : (((ds.length : Nat) : Int) == 0) = false := beq_eq_false_iff_ne.mpr (by omega)
      have q1 : Q_is_moves_1 [.cl (.tuple (a.map .int)), .cl (.tuple (b.map .int)), .cl (.tuple ds), .un, .un] = some ((ds.map fun d => rowB d && lenB a.length d).map .bool) := by
        rw [List.map_map]
        unfold Q_is_moves_1 eLc
        simp -implicitDefEqProofs only [z_bool_none, z_bool_bool, z_bool_int, z_bool_str, z_bool_list, z_bool_tuple, z_int_none, z_int_bool, z_int_int, z_int_str, z_int_list, z_int_tuple, z_tuple_none, z_tuple_bool, z_tuple_int, z_tuple_str, z_tuple_list, z_tuple_tuple, z_list_none, z_list_bool, z_list_int, z_list_str, z_list_list, z_list_tuple, z_str_none, z_str_bool, z_str_int, z_str_str, z_str_list, z_str_tuple, z_dict_none, z_dict_bool, z_dict_int, z_dict_str, z_dict_list, z_dict_tuple, q_seq, q_thn, q_thr, q_thb, q_thc, q_thro, q_if, q_ift, q_iff, q_nil, q_ret, q_retN, q_set, q_setO, q_setC, q_setW, q_frz, q_frzo, q_frzc, q_frzu, q_frzt, q_frzt', q_frzr, q_V, q_C, q_ow, q_Vc, q_Vo, q_Cc, q_Oo, q_K, q_N, q_aC, q_aC1, q_tup, q_lst, q_L, q_b, q_bb, q_kB, q_kNot, q_kAnd, q_kOr, q_kit, q_kif, q_kot, q_kof, q_eAnd, q_eOr, q_eit, q_eif, q_eot, q_eof, q_eNot, q_notO, q_eIf, q_eIt, q_eIff, q_bin, q_bin1, q_ch, q_ch1, q_ch2, q_ch3t, q_ch3f, q_addI, q_addS, q_addT, q_addL, q_sub, q_mul, q_mulT, q_imul, q_iadd, q_iaddS, q_fdiv, q_mod, q_pow, q_lsh, q_rsh, q_band, q_lt, q_le, q_gt, q_ge, q_eqI, q_neI, q_isB, q_isN, q_isnB, q_isnN, q_neg, q_un, q_revL, q_revT, q_ixL, q_ixT, q_iOf, q_oN, q_oS, q_sl, q_sl1, q_sl2, q_slT, q_slL, q_call, q_cb, q_cf, q_lenL, q_lenT, q_intI, q_intB, q_abs, q_tupL, q_tupT, q_listL, q_listT, q_sort, q_all, q_max2, q_min2, q_sumL, q_sumT, q_isi, q_isO, q_iseq, q_itL, q_itT, q_revF, q_lrv, q_r1, q_r2, q_r2', q_gN, q_gT, q_gTL, q_sAn, q_sAc, q_app, q_app1, q_app2, q_put, q_put1, q_put2, q_put3, q_aug, q_unp, q_unp1, q_nxO, q_par, q_parO, q_run, q_outr, q_outn, start0, Option.bind_some, Option.bind_none, Option.map_some, Option.map_none, List.map_cons, List.map_nil, List.length_cons, List.length_nil, List.replicate_succ, List.replicate_zero, List.cons_append, List.nil_append, List.append_nil, List.getElem?_cons_zero, List.getElem?_cons_succ, List.getElem?_nil, List.set_cons_zero, List.set_cons_succ, chkL_of, chkT_of, Nat.zero_le, Nat.reduceLeDiff, Nat.reduceSub, Nat.reduceAdd, Nat.sub_self, Bool.not_false, Bool.not_true]
        rw [chkL_of (by omega), Option.bind_some]
        have e : ∀ f, lcD f ds = lcD f (ds.map id) := fun f => by rw [List.map_id]
        rw [e]
        refine lcD_map ds fun k hk => ?_
        unfold lcT
        simp only [wipeE, List.set_cons_zero, List.set_cons_succ]
        have er := is_row_e (hm k hk)
        show _ = some (some (PyData.bool (rowB k && lenB a.length k)))
        cases hr : rowB k with
        | false =>
          rw [hr] at er
          simp -implicitDefEqProofs only [z_bool_none, z_bool_bool, z_bool_int, z_bool_str, z_bool_list, z_bool_tuple, z_int_none, z_int_bool, z_int_int, z_int_str, z_int_list, z_int_tuple, z_tuple_none, z_tuple_bool, z_tuple_int, z_tuple_str, z_tuple_list, z_tuple_tuple, z_list_none, z_list_bool, z_list_int, z_list_str, z_list_list, z_list_tuple, z_str_none, z_str_bool, z_str_int, z_str_str, z_str_list, z_str_tuple, z_dict_none, z_dict_bool, z_dict_int, z_dict_str, z_dict_list, z_dict_tuple, q_seq, q_thn, q_thr, q_thb, q_thc, q_thro, q_if, q_ift, q_iff, q_nil, q_ret, q_retN, q_set, q_setO, q_setC, q_setW, q_frz, q_frzo, q_frzc, q_frzu, q_frzt, q_frzt', q_frzr, q_V, q_C, q_ow, q_Vc, q_Vo, q_Cc, q_Oo, q_K, q_N, q_aC, q_aC1, q_tup, q_lst, q_L, q_b, q_bb, q_kB, q_kNot, q_kAnd, q_kOr, q_kit, q_kif, q_kot, q_kof, q_eAnd, q_eOr, q_eit, q_eif, q_eot, q_eof, q_eNot, q_notO, q_eIf, q_eIt, q_eIff, q_bin, q_bin1, q_ch, q_ch1, q_ch2, q_ch3t, q_ch3f, q_addI, q_addS, q_addT, q_addL, q_sub, q_mul, q_mulT, q_imul, q_iadd, q_iaddS, q_fdiv, q_mod, q_pow, q_lsh, q_rsh, q_band, q_lt, q_le, q_gt, q_ge, q_eqI, q_neI, q_isB, q_isN, q_isnB, q_isnN, q_neg, q_un, q_revL, q_revT, q_ixL, q_ixT, q_iOf, q_oN, q_oS, q_sl, q_sl1, q_sl2, q_slT, q_slL, q_call, q_cb, q_cf, q_lenL, q_lenT, q_intI, q_intB, q_abs, q_tupL, q_tupT, q_listL, q_listT, q_sort, q_all, q_max2, q_min2, q_sumL, q_sumT, q_isi, q_isO, q_iseq, q_itL, q_itT, q_revF, q_lrv, q_r1, q_r2, q_r2', q_gN, q_gT, q_gTL, q_sAn, q_sAc, q_app, q_app1, q_app2, q_put, q_put1, q_put2, q_put3, q_aug, q_unp, q_unp1, q_nxO, q_par, q_parO, q_run, q_outr, q_outn, start0, Option.bind_some, Option.bind_none, Option.map_some, Option.map_none, List.map_cons, List.map_nil, List.length_cons, List.length_nil, List.replicate_succ, List.replicate_zero, List.cons_append, List.nil_append, List.append_nil, List.getElem?_cons_zero, List.getElem?_cons_succ, List.getElem?_nil, List.set_cons_zero, List.set_cons_succ, chkL_of, chkT_of, Nat.zero_le, Nat.reduceLeDiff, Nat.reduceSub, Nat.reduceAdd, Nat.sub_self, Bool.not_false, Bool.not_true, id, er, bOf, Bool.false_and]
          rfl
        | true =>
          obtain ⟨ns, rfl, _⟩ := rowB_true hr
          rw [hr] at er
          have hlb : lenB a.length (.tuple (ns.map .int)) = ((ns.length : Int) == (a.length : Int)) := by
            show (((ns.map PyData.int).length : Int) == _) = _
            rw [List.length_map]
          simp -implicitDefEqProofs only [z_bool_none, z_bool_bool, z_bool_int, z_bool_str, z_bool_list, z_bool_tuple, z_int_none, z_int_bool, z_int_int, z_int_str, z_int_list, z_int_tuple, z_tuple_none, z_tuple_bool, z_tuple_int, z_tuple_str, z_tuple_list, z_tuple_tuple, z_list_none, z_list_bool, z_list_int, z_list_str, z_list_list, z_list_tuple, z_str_none, z_str_bool, z_str_int, z_str_str, z_str_list, z_str_tuple, z_dict_none, z_dict_bool, z_dict_int, z_dict_str, z_dict_list, z_dict_tuple, q_seq, q_thn, q_thr, q_thb, q_thc, q_thro, q_if, q_ift, q_iff, q_nil, q_ret, q_retN, q_set, q_setO, q_setC, q_setW, q_frz, q_frzo, q_frzc, q_frzu, q_frzt, q_frzt', q_frzr, q_V, q_C, q_ow, q_Vc, q_Vo, q_Cc, q_Oo, q_K, q_N, q_aC, q_aC1, q_tup, q_lst, q_L, q_b, q_bb, q_kB, q_kNot, q_kAnd, q_kOr, q_kit, q_kif, q_kot, q_kof, q_eAnd, q_eOr, q_eit, q_eif, q_eot, q_eof, q_eNot, q_notO, q_eIf, q_eIt, q_eIff, q_bin, q_bin1, q_ch, q_ch1, q_ch2, q_ch3t, q_ch3f, q_addI, q_addS, q_addT, q_addL, q_sub, q_mul, q_mulT, q_imul, q_iadd, q_iaddS, q_fdiv, q_mod, q_pow, q_lsh, q_rsh, q_band, q_lt, q_le, q_gt, q_ge, q_eqI, q_neI, q_isB, q_isN, q_isnB, q_isnN, q_neg, q_un, q_revL, q_revT, q_ixL, q_ixT, q_iOf, q_oN, q_oS, q_sl, q_sl1, q_sl2, q_slT, q_slL, q_call, q_cb, q_cf, q_lenL, q_lenT, q_intI, q_intB, q_abs, q_tupL, q_tupT, q_listL, q_listT, q_sort, q_all, q_max2, q_min2, q_sumL, q_sumT, q_isi, q_isO, q_iseq, q_itL, q_itT, q_revF, q_lrv, q_r1, q_r2, q_r2', q_gN, q_gT, q_gTL, q_sAn, q_sAc, q_app, q_app1, q_app2, q_put, q_put1, q_put2, q_put3, q_aug, q_unp, q_unp1, q_nxO, q_par, q_parO, q_run, q_outr, q_outn, start0, Option.bind_some, Option.bind_none, Option.map_some, Option.map_none, List.map_cons, List.map_nil, List.length_cons, List.length_nil, List.replicate_succ, List.replicate_zero, List.cons_append, List.nil_append, List.append_nil, List.getElem?_cons_zero, List.getElem?_cons_succ, List.getElem?_nil, List.set_cons_zero, List.set_cons_succ, chkL_of, chkT_of, Nat.zero_le, Nat.reduceLeDiff, Nat.reduceSub, Nat.reduceAdd, Nat.sub_self, Bool.not_false, Bool.not_true, id, er, bOf, Bool.true_and, List.length_map, hlb]
          rfl
      have ha : (ds.map fun d => rowB d && lenB a.length d).all id = ds.all fun d => rowB d && lenB a.length d := by rw [List.all_map]; rfl
      rw [movesB_t, decide_eq_true hz, Bool.true_and]
      cases ho : ds.all fun d => rowB d && lenB a.length d with
      | false => simp -implicitDefEqProofs only [z_bool_none, z_bool_bool, z_bool_int, z_bool_str, z_bool_list, z_bool_tuple, z_int_none, z_int_bool, z_int_int, z_int_str, z_int_list, z_int_tuple, z_tuple_none, z_tuple_bool, z_tuple_int, z_tuple_str, z_tuple_list, z_tuple_tuple, z_list_none, z_list_bool, z_list_int, z_list_str, z_list_list, z_list_tuple, z_str_none, z_str_bool, z_str_int, z_str_str, z_str_list, z_str_tuple, z_dict_none, z_dict_bool, z_dict_int, z_dict_str, z_dict_list, z_dict_tuple, q_seq, q_thn, q_thr, q_thb, q_thc, q_thro, q_if, q_ift, q_iff, q_nil, q_ret, q_retN, q_set, q_setO, q_setC, q_setW, q_frz, q_frzo, q_frzc, q_frzu, q_frzt, q_frzt', q_frzr, q_V, q_C, q_ow, q_Vc, q_Vo, q_Cc, q_Oo, q_K, q_N, q_aC, q_aC1, q_tup, q_lst, q_L, q_b, q_bb, q_kB, q_kNot, q_kAnd, q_kOr, q_kit, q_kif, q_kot, q_kof, q_eAnd, q_eOr, q_eit, q_eif, q_eot, q_eof, q_eNot, q_notO, q_eIf, q_eIt, q_eIff, q_bin, q_bin1, q_ch, q_ch1, q_ch2, q_ch3t, q_ch3f, q_addI, q_addS, q_addT, q_addL, q_sub, q_mul, q_mulT, q_imul, q_iadd, q_iaddS, q_fdiv, q_mod, q_pow, q_lsh, q_rsh, q_band, q_lt, q_le, q_gt, q_ge, q_eqI, q_neI, q_isB, q_isN, q_isnB, q_isnN, q_neg, q_un, q_revL, q_revT, q_ixL, q_ixT, q_iOf, q_oN, q_oS, q_sl, q_sl1, q_sl2, q_slT, q_slL, q_call, q_cb, q_cf, q_lenL, q_lenT, q_intI, q_intB, q_abs, q_tupL, q_tupT, q_listL, q_listT, q_sort, q_all, q_max2, q_min2, q_sumL, q_sumT, q_isi, q_isO, q_iseq, q_itL, q_itT, q_revF, q_lrv, q_r1, q_r2, q_r2', q_gN, q_gT, q_gTL, q_sAn, q_sAc, q_app, q_app1, q_app2, q_put, q_put1, q_put2, q_put3, q_aug, q_unp, q_unp1, q_nxO, q_par, q_parO, q_run, q_outr, q_outn, start0, Option.bind_some, Option.bind_none, Option.map_some, Option.map_none, List.map_cons, List.map_nil, List.length_cons, List.length_nil, List.replicate_succ, List.replicate_zero, List.cons_append, List.nil_append, List.append_nil, List.getElem?_cons_zero, List.getElem?_cons_succ, List.getElem?_nil, List.set_cons_zero, List.set_cons_succ, chkL_of, chkT_of, Nat.zero_le, Nat.reduceLeDiff, Nat.reduceSub, Nat.reduceAdd, Nat.sub_self, Bool.not_false, Bool.not_true, hz0, q1, bL_map, ha, ho, Bool.false_and]
      | true =>
        obtain ⟨vs, rfl, hv⟩ := lenRows ho
        rw [rowInts_map, Bool.true_and]
        rw [List.length_map] at hl hz hz0
        have e0 := atI_mapL (fun ns : List Int => PyData.tuple (ns.map .int)) vs (k := 0) [] (by omega)
        rw [Int.natCast_zero] at e0
        have el : atI (vs.map fun r => PyData.tuple (r.map .int)) (-1) = some (.tuple ((vs.getD (vs.length - 1) []).map .int)) := by
          rw [atI_neg1 (by rw [List.length_map]; omega), List.getElem_map, getDat (by omega)]
          simp
        have q2 : Q_is_moves_2 [.cl (.tuple (a.map .int)), .cl (.tuple (b.map .int)), .cl (.tuple (vs.map fun ns => PyData.tuple (ns.map .int))), .un, .un] = some (((List.range (vs.length - 1)).map fun k => mvB (vs.getD k []) (vs.getD (k + 1) [])).map .bool) := by
          rw [List.map_map]
          unfold Q_is_moves_2 eLc
          simp -implicitDefEqProofs only [z_bool_none, z_bool_bool, z_bool_int, z_bool_str, z_bool_list, z_bool_tuple, z_int_none, z_int_bool, z_int_int, z_int_str, z_int_list, z_int_tuple, z_tuple_none, z_tuple_bool, z_tuple_int, z_tuple_str, z_tuple_list, z_tuple_tuple, z_list_none, z_list_bool, z_list_int, z_list_str, z_list_list, z_list_tuple, z_str_none, z_str_bool, z_str_int, z_str_str, z_str_list, z_str_tuple, z_dict_none, z_dict_bool, z_dict_int, z_dict_str, z_dict_list, z_dict_tuple, q_seq, q_thn, q_thr, q_thb, q_thc, q_thro, q_if, q_ift, q_iff, q_nil, q_ret, q_retN, q_set, q_setO, q_setC, q_setW, q_frz, q_frzo, q_frzc, q_frzu, q_frzt, q_frzt', q_frzr, q_V, q_C, q_ow, q_Vc, q_Vo, q_Cc, q_Oo, q_K, q_N, q_aC, q_aC1, q_tup, q_lst, q_L, q_b, q_bb, q_kB, q_kNot, q_kAnd, q_kOr, q_kit, q_kif, q_kot, q_kof, q_eAnd, q_eOr, q_eit, q_eif, q_eot, q_eof, q_eNot, q_notO, q_eIf, q_eIt, q_eIff, q_bin, q_bin1, q_ch, q_ch1, q_ch2, q_ch3t, q_ch3f, q_addI, q_addS, q_addT, q_addL, q_sub, q_mul, q_mulT, q_imul, q_iadd, q_iaddS, q_fdiv, q_mod, q_pow, q_lsh, q_rsh, q_band, q_lt, q_le, q_gt, q_ge, q_eqI, q_neI, q_isB, q_isN, q_isnB, q_isnN, q_neg, q_un, q_revL, q_revT, q_ixL, q_ixT, q_iOf, q_oN, q_oS, q_sl, q_sl1, q_sl2, q_slT, q_slL, q_call, q_cb, q_cf, q_lenL, q_lenT, q_intI, q_intB, q_abs, q_tupL, q_tupT, q_listL, q_listT, q_sort, q_all, q_max2, q_min2, q_sumL, q_sumT, q_isi, q_isO, q_iseq, q_itL, q_itT, q_revF, q_lrv, q_r1, q_r2, q_r2', q_gN, q_gT, q_gTL, q_sAn, q_sAc, q_app, q_app1, q_app2, q_put, q_put1, q_put2, q_put3, q_aug, q_unp, q_unp1, q_nxO, q_par, q_parO, q_run, q_outr, q_outn, start0, Option.bind_some, Option.bind_none, Option.map_some, Option.map_none, List.map_cons, List.map_nil, List.length_cons, List.length_nil, List.replicate_succ, List.replicate_zero, List.cons_append, List.nil_append, List.append_nil, List.getElem?_cons_zero, List.getElem?_cons_succ, List.getElem?_nil, List.set_cons_zero, List.set_cons_succ, chkL_of, chkT_of, Nat.zero_le, Nat.reduceLeDiff, Nat.reduceSub, Nat.reduceAdd, Nat.sub_self, Bool.not_false, Bool.not_true, List.length_map, rngD_of (m := 0) (n := (vs.length : Int) - 1) (by omega) (by omega) (by omega) (by omega), Int.sub_zero, show ((vs.length : Int) - 1).toNat = vs.length - 1 by omega]
          rw [chkL_of (by rw [rangeD_length]; omega), Option.bind_some]
          unfold rangeD
          refine lcD_map (List.range (vs.length - 1)) fun k hk => ?_
          have hk := List.mem_range.mp hk
          unfold lcT
          rw [Int.zero_add]
          simp only [wipeE, List.set_cons_zero, List.set_cons_succ]
          have b1 := hv _ (getD_memL (vs := vs) (k := k) (by omega))
          have b2 := hv _ (getD_memL (vs := vs) (k := k + 1) (by omega))
          simp -implicitDefEqProofs only [z_bool_none, z_bool_bool, z_bool_int, z_bool_str, z_bool_list, z_bool_tuple, z_int_none, z_int_bool, z_int_int, z_int_str, z_int_list, z_int_tuple, z_tuple_none, z_tuple_bool, z_tuple_int, z_tuple_str, z_tuple_list, z_tuple_tuple, z_list_none, z_list_bool, z_list_int, z_list_str, z_list_list, z_list_tuple, z_str_none, z_str_bool, z_str_int, z_str_str, z_str_list, z_str_tuple, z_dict_none, z_dict_bool, z_dict_int, z_dict_str, z_dict_list, z_dict_tuple, q_seq, q_thn, q_thr, q_thb, q_thc, q_thro, q_if, q_ift, q_iff, q_nil, q_ret, q_retN, q_set, q_setO, q_setC, q_setW, q_frz, q_frzo, q_frzc, q_frzu, q_frzt, q_frzt', q_frzr, q_V, q_C, q_ow, q_Vc, q_Vo, q_Cc, q_Oo, q_K, q_N, q_aC, q_aC1, q_tup, q_lst, q_L, q_b, q_bb, q_kB, q_kNot, q_kAnd, q_kOr, q_kit, q_kif, q_kot, q_kof, q_eAnd, q_eOr, q_eit, q_eif, q_eot, q_eof, q_eNot, q_notO, q_eIf, q_eIt, q_eIff, q_bin, q_bin1, q_ch, q_ch1, q_ch2, q_ch3t, q_ch3f, q_addI, q_addS, q_addT, q_addL, q_sub, q_mul, q_mulT, q_imul, q_iadd, q_iaddS, q_fdiv, q_mod, q_pow, q_lsh, q_rsh, q_band, q_lt, q_le, q_gt, q_ge, q_eqI, q_neI, q_isB, q_isN, q_isnB, q_isnN, q_neg, q_un, q_revL, q_revT, q_ixL, q_ixT, q_iOf, q_oN, q_oS, q_sl, q_sl1, q_sl2, q_slT, q_slL, q_call, q_cb, q_cf, q_lenL, q_lenT, q_intI, q_intB, q_abs, q_tupL, q_tupT, q_listL, q_listT, q_sort, q_all, q_max2, q_min2, q_sumL, q_sumT, q_isi, q_isO, q_iseq, q_itL, q_itT, q_revF, q_lrv, q_r1, q_r2, q_r2', q_gN, q_gT, q_gTL, q_sAn, q_sAc, q_app, q_app1, q_app2, q_put, q_put1, q_put2, q_put3, q_aug, q_unp, q_unp1, q_nxO, q_par, q_parO, q_run, q_outr, q_outn, start0, Option.bind_some, Option.bind_none, Option.map_some, Option.map_none, List.map_cons, List.map_nil, List.length_cons, List.length_nil, List.replicate_succ, List.replicate_zero, List.cons_append, List.nil_append, List.append_nil, List.getElem?_cons_zero, List.getElem?_cons_succ, List.getElem?_nil, List.set_cons_zero, List.set_cons_succ, chkL_of, chkT_of, Nat.zero_le, Nat.reduceLeDiff, Nat.reduceSub, Nat.reduceAdd, Nat.sub_self, Bool.not_false, Bool.not_true, atI_mapL (fun ns => PyData.tuple (ns.map .int)) vs [] (show k < vs.length by omega), show ((k : Int) + 1) = ((k + 1 : Nat) : Int) by omega, atI_mapL (fun ns => PyData.tuple (ns.map .int)) vs [] (show k + 1 < vs.length by omega), is_move_e (one := vs.getD k []) (two := vs.getD (k + 1) []) (by omega) (by omega)]
          rfl
        unfold pathB
        cases hf : decide (vs.getD 0 [] = a) with
        | false => simp -implicitDefEqProofs only [z_bool_none, z_bool_bool, z_bool_int, z_bool_str, z_bool_list, z_bool_tuple, z_int_none, z_int_bool, z_int_int, z_int_str, z_int_list, z_int_tuple, z_tuple_none, z_tuple_bool, z_tuple_int, z_tuple_str, z_tuple_list, z_tuple_tuple, z_list_none, z_list_bool, z_list_int, z_list_str, z_list_list, z_list_tuple, z_str_none, z_str_bool, z_str_int, z_str_str, z_str_list, z_str_tuple, z_dict_none, z_dict_bool, z_dict_int, z_dict_str, z_dict_list, z_dict_tuple, q_seq, q_thn, q_thr, q_thb, q_thc, q_thro, q_if, q_ift, q_iff, q_nil, q_ret, q_retN, q_set, q_setO, q_setC, q_setW, q_frz, q_frzo, q_frzc, q_frzu, q_frzt, q_frzt', q_frzr, q_V, q_C, q_ow, q_Vc, q_Vo, q_Cc, q_Oo, q_K, q_N, q_aC, q_aC1, q_tup, q_lst, q_L, q_b, q_bb, q_kB, q_kNot, q_kAnd, q_kOr, q_kit, q_kif, q_kot, q_kof, q_eAnd, q_eOr, q_eit, q_eif, q_eot, q_eof, q_eNot, q_notO, q_eIf, q_eIt, q_eIff, q_bin, q_bin1, q_ch, q_ch1, q_ch2, q_ch3t, q_ch3f, q_addI, q_addS, q_addT, q_addL, q_sub, q_mul, q_mulT, q_imul, q_iadd, q_iaddS, q_fdiv, q_mod, q_pow, q_lsh, q_rsh, q_band, q_lt, q_le, q_gt, q_ge, q_eqI, q_neI, q_isB, q_isN, q_isnB, q_isnN, q_neg, q_un, q_revL, q_revT, q_ixL, q_ixT, q_iOf, q_oN, q_oS, q_sl, q_sl1, q_sl2, q_slT, q_slL, q_call, q_cb, q_cf, q_lenL, q_lenT, q_intI, q_intB, q_abs, q_tupL, q_tupT, q_listL, q_listT, q_sort, q_all, q_max2, q_min2, q_sumL, q_sumT, q_isi, q_isO, q_iseq, q_itL, q_itT, q_revF, q_lrv, q_r1, q_r2, q_r2', q_gN, q_gT, q_gTL, q_sAn, q_sAc, q_app, q_app1, q_app2, q_put, q_put1, q_put2, q_put3, q_aug, q_unp, q_unp1, q_nxO, q_par, q_parO, q_run, q_outr, q_outn, start0, Option.bind_some, Option.bind_none, Option.map_some, Option.map_none, List.map_cons, List.map_nil, List.length_cons, List.length_nil, List.replicate_succ, List.replicate_zero, List.cons_append, List.nil_append, List.append_nil, List.getElem?_cons_zero, List.getElem?_cons_succ, List.getElem?_nil, List.set_cons_zero, List.set_cons_succ, chkL_of, chkT_of, Nat.zero_le, Nat.reduceLeDiff, Nat.reduceSub, Nat.reduceAdd, Nat.sub_self, Bool.not_false, Bool.not_true, List.length_map, hz0, q1, bL_map, ha, ho, e0, dNe_intT, hf, Bool.false_and]
        | true =>
          cases hf2 : decide (vs.getD (vs.length - 1) [] = b) with
          | false => simp -implicitDefEqProofs only [z_bool_none, z_bool_bool, z_bool_int, z_bool_str, z_bool_list, z_bool_tuple, z_int_none, z_int_bool, z_int_int, z_int_str, z_int_list, z_int_tuple, z_tuple_none, z_tuple_bool, z_tuple_int, z_tuple_str, z_tuple_list, z_tuple_tuple, z_list_none, z_list_bool, z_list_int, z_list_str, z_list_list, z_list_tuple, z_str_none, z_str_bool, z_str_int, z_str_str, z_str_list, z_str_tuple, z_dict_none, z_dict_bool, z_dict_int, z_dict_str, z_dict_list, z_dict_tuple, q_seq, q_thn, q_thr, q_thb, q_thc, q_thro, q_if, q_ift, q_iff, q_nil, q_ret, q_retN, q_set, q_setO, q_setC, q_setW, q_frz, q_frzo, q_frzc, q_frzu, q_frzt, q_frzt', q_frzr, q_V, q_C, q_ow, q_Vc, q_Vo, q_Cc, q_Oo, q_K, q_N, q_aC, q_aC1, q_tup, q_lst, q_L, q_b, q_bb, q_kB, q_kNot, q_kAnd, q_kOr, q_kit, q_kif, q_kot, q_kof, q_eAnd, q_eOr, q_eit, q_eif, q_eot, q_eof, q_eNot, q_notO, q_eIf, q_eIt, q_eIff, q_bin, q_bin1, q_ch, q_ch1, q_ch2, q_ch3t, q_ch3f, q_addI, q_addS, q_addT, q_addL, q_sub, q_mul, q_mulT, q_imul, q_iadd, q_iaddS, q_fdiv, q_mod, q_pow, q_lsh, q_rsh, q_band, q_lt, q_le, q_gt, q_ge, q_eqI, q_neI, q_isB, q_isN, q_isnB, q_isnN, q_neg, q_un, q_revL, q_revT, q_ixL, q_ixT, q_iOf, q_oN, q_oS, q_sl, q_sl1, q_sl2, q_slT, q_slL, q_call, q_cb, q_cf, q_lenL, q_lenT, q_intI, q_intB, q_abs, q_tupL, q_tupT, q_listL, q_listT, q_sort, q_all, q_max2, q_min2, q_sumL, q_sumT, q_isi, q_isO, q_iseq, q_itL, q_itT, q_revF, q_lrv, q_r1, q_r2, q_r2', q_gN, q_gT, q_gTL, q_sAn, q_sAc, q_app, q_app1, q_app2, q_put, q_put1, q_put2, q_put3, q_aug, q_unp, q_unp1, q_nxO, q_par, q_parO, q_run, q_outr, q_outn, start0, Option.bind_some, Option.bind_none, Option.map_some, Option.map_none, List.map_cons, List.map_nil, List.length_cons, List.length_nil, List.replicate_succ, List.replicate_zero, List.cons_append, List.nil_append, List.append_nil, List.getElem?_cons_zero, List.getElem?_cons_succ, List.getElem?_nil, List.set_cons_zero, List.set_cons_succ, chkL_of, chkT_of, Nat.zero_le, Nat.reduceLeDiff, Nat.reduceSub, Nat.reduceAdd, Nat.sub_self, Bool.not_false, Bool.not_true, List.length_map, hz0, q1, bL_map, ha, ho, e0, el, dNe_intT, hf, hf2, Bool.false_and, Bool.true_and]
          | true =>
            simp -implicitDefEqProofs only [z_bool_none, z_bool_bool, z_bool_int, z_bool_str, z_bool_list, z_bool_tuple, z_int_none, z_int_bool, z_int_int, z_int_str, z_int_list, z_int_tuple, z_tuple_none, z_tuple_bool, z_tuple_int, z_tuple_str, z_tuple_list, z_tuple_tuple, z_list_none, z_list_bool, z_list_int, z_list_str, z_list_list, z_list_tuple, z_str_none, z_str_bool, z_str_int, z_str_str, z_str_list, z_str_tuple, z_dict_none, z_dict_bool, z_dict_int, z_dict_str, z_dict_list, z_dict_tuple, q_seq, q_thn, q_thr, q_thb, q_thc, q_thro, q_if, q_ift, q_iff, q_nil, q_ret, q_retN, q_set, q_setO, q_setC, q_setW, q_frz, q_frzo, q_frzc, q_frzu, q_frzt, q_frzt', q_frzr, q_V, q_C, q_ow, q_Vc, q_Vo, q_Cc, q_Oo, q_K, q_N, q_aC, q_aC1, q_tup, q_lst, q_L, q_b, q_bb, q_kB, q_kNot, q_kAnd, q_kOr, q_kit, q_kif, q_kot, q_kof, q_eAnd, q_eOr, q_eit, q_eif, q_eot, q_eof, q_eNot, q_notO, q_eIf, q_eIt, q_eIff, q_bin, q_bin1, q_ch, q_ch1, q_ch2, q_ch3t, q_ch3f, q_addI, q_addS, q_addT, q_addL, q_sub, q_mul, q_mulT, q_imul, q_iadd, q_iaddS, q_fdiv, q_mod, q_pow, q_lsh, q_rsh, q_band, q_lt, q_le, q_gt, q_ge, q_eqI, q_neI, q_isB, q_isN, q_isnB, q_isnN, q_neg, q_un, q_revL, q_revT, q_ixL, q_ixT, q_iOf, q_oN, q_oS, q_sl, q_sl1, q_sl2, q_slT, q_slL, q_call, q_cb, q_cf, q_lenL, q_lenT, q_intI, q_intB, q_abs, q_tupL, q_tupT, q_listL, q_listT, q_sort, q_all, q_max2, q_min2, q_sumL, q_sumT, q_isi, q_isO, q_iseq, q_itL, q_itT, q_revF, q_lrv, q_r1, q_r2, q_r2', q_gN, q_gT, q_gTL, q_sAn, q_sAc, q_app, q_app1, q_app2, q_put, q_put1, q_put2, q_put3, q_aug, q_unp, q_unp1, q_nxO, q_par, q_parO, q_run, q_outr, q_outn, start0, Option.bind_some, Option.bind_none, Option.map_some, Option.map_none, List.map_cons, List.map_nil, List.length_cons, List.length_nil, List.replicate_succ, List.replicate_zero, List.cons_append, List.nil_append, List.append_nil, List.getElem?_cons_zero, List.getElem?_cons_succ, List.getElem?_nil, List.set_cons_zero, List.set_cons_succ, chkL_of, chkT_of, Nat.zero_le, Nat.reduceLeDiff, Nat.reduceSub, Nat.reduceAdd, Nat.sub_self, Bool.not_false, Bool.not_true, List.length_map, hz0, q1, bL_map, ha, ho, e0, el, dNe_intT, hf, hf2, Bool.true_and, q2]
            rw [List.all_map]
            rfl
    · have hz0 : (((ds.length : Nat) : Int) == 0) = true := beq_iff_eq.mpr (by omega)
      rw [movesB_t, decide_eq_false hz, Bool.false_and]
      simp -implicitDefEqProofs only [z_bool_none, z_bool_bool, z_bool_int, z_bool_str, z_bool_list, z_bool_tuple, z_int_none, z_int_bool, z_int_int, z_int_str, z_int_list, z_int_tuple, z_tuple_none, z_tuple_bool, z_tuple_int, z_tuple_str, z_tuple_list, z_tuple_tuple, z_list_none, z_list_bool, z_list_int, z_list_str, z_list_list, z_list_tuple, z_str_none, z_str_bool, z_str_int, z_str_str, z_str_list, z_str_tuple, z_dict_none, z_dict_bool, z_dict_int, z_dict_str, z_dict_list, z_dict_tuple, q_seq, q_thn, q_thr, q_thb, q_thc, q_thro, q_if, q_ift, q_iff, q_nil, q_ret, q_retN, q_set, q_setO, q_setC, q_setW, q_frz, q_frzo, q_frzc, q_frzu, q_frzt, q_frzt', q_frzr, q_V, q_C, q_ow, q_Vc, q_Vo, q_Cc, q_Oo, q_K, q_N, q_aC, q_aC1, q_tup, q_lst, q_L, q_b, q_bb, q_kB, q_kNot, q_kAnd, q_kOr, q_kit, q_kif, q_kot, q_kof, q_eAnd, q_eOr, q_eit, q_eif, q_eot, q_eof, q_eNot, q_notO, q_eIf, q_eIt, q_eIff, q_bin, q_bin1, q_ch, q_ch1, q_ch2, q_ch3t, q_ch3f, q_addI, q_addS, q_addT, q_addL, q_sub, q_mul, q_mulT, q_imul, q_iadd, q_iaddS, q_fdiv, q_mod, q_pow, q_lsh, q_rsh, q_band, q_lt, q_le, q_gt, q_ge, q_eqI, q_neI, q_isB, q_isN, q_isnB, q_isnN, q_neg, q_un, q_revL, q_revT, q_ixL, q_ixT, q_iOf, q_oN, q_oS, q_sl, q_sl1, q_sl2, q_slT, q_slL, q_call, q_cb, q_cf, q_lenL, q_lenT, q_intI, q_intB, q_abs, q_tupL, q_tupT, q_listL, q_listT, q_sort, q_all, q_max2, q_min2, q_sumL, q_sumT, q_isi, q_isO, q_iseq, q_itL, q_itT, q_revF, q_lrv, q_r1, q_r2, q_r2', q_gN, q_gT, q_gTL, q_sAn, q_sAc, q_app, q_app1, q_app2, q_put, q_put1, q_put2, q_put3, q_aug, q_unp, q_unp1, q_nxO, q_par, q_parO, q_run, q_outr, q_outn, start0, Option.bind_some, Option.bind_none, Option.map_some, Option.map_none, List.map_cons, List.map_nil, List.length_cons, List.length_nil, List.replicate_succ, List.replicate_zero, List.cons_append, List.nil_append, List.append_nil, List.getElem?_cons_zero, List.getElem?_cons_succ, List.getElem?_nil, List.set_cons_zero, List.set_cons_succ, chkL_of, chkT_of, Nat.zero_le, Nat.reduceLeDiff, Nat.reduceSub, Nat.reduceAdd, Nat.sub_self, Bool.not_false, Bool.not_true, hz0]
  | _ =>
    simp -implicitDefEqProofs only [z_bool_none, z_bool_bool, z_bool_int, z_bool_str, z_bool_list, z_bool_tuple, z_int_none, z_int_bool, z_int_int, z_int_str, z_int_list, z_int_tuple, z_tuple_none, z_tuple_bool, z_tuple_int, z_tuple_str, z_tuple_list, z_tuple_tuple, z_list_none, z_list_bool, z_list_int, z_list_str, z_list_list, z_list_tuple, z_str_none, z_str_bool, z_str_int, z_str_str, z_str_list, z_str_tuple, z_dict_none, z_dict_bool, z_dict_int, z_dict_str, z_dict_list, z_dict_tuple, q_seq, q_thn, q_thr, q_thb, q_thc, q_thro, q_if, q_ift, q_iff, q_nil, q_ret, q_retN, q_set, q_setO, q_setC, q_setW, q_frz, q_frzo, q_frzc, q_frzu, q_frzt, q_frzt', q_frzr, q_V, q_C, q_ow, q_Vc, q_Vo, q_Cc, q_Oo, q_K, q_N, q_aC, q_aC1, q_tup, q_lst, q_L, q_b, q_bb, q_kB, q_kNot, q_kAnd, q_kOr, q_kit, q_kif, q_kot, q_kof, q_eAnd, q_eOr, q_eit, q_eif, q_eot, q_eof, q_eNot, q_notO, q_eIf, q_eIt, q_eIff, q_bin, q_bin1, q_ch, q_ch1, q_ch2, q_ch3t, q_ch3f, q_addI, q_addS, q_addT, q_addL, q_sub, q_mul, q_mulT, q_imul, q_iadd, q_iaddS, q_fdiv, q_mod, q_pow, q_lsh, q_rsh, q_band, q_lt, q_le, q_gt, q_ge, q_eqI, q_neI, q_isB, q_isN, q_isnB, q_isnN, q_neg, q_un, q_revL, q_revT, q_ixL, q_ixT, q_iOf, q_oN, q_oS, q_sl, q_sl1, q_sl2, q_slT, q_slL, q_call, q_cb, q_cf, q_lenL, q_lenT, q_intI, q_intB, q_abs, q_tupL, q_tupT, q_listL, q_listT, q_sort, q_all, q_max2, q_min2, q_sumL, q_sumT, q_isi, q_isO, q_iseq, q_itL, q_itT, q_revF, q_lrv, q_r1, q_r2, q_r2', q_gN, q_gT, q_gTL, q_sAn, q_sAc, q_app, q_app1, q_app2, q_put, q_put1, q_put2, q_put3, q_aug, q_unp, q_unp1, q_nxO, q_par, q_parO, q_run, q_outr, q_outn, start0, Option.bind_some, Option.bind_none, Option.map_some, Option.map_none, List.map_cons, List.map_nil, List.length_cons, List.length_nil, List.replicate_succ, List.replicate_zero, List.cons_append, List.nil_append, List.append_nil, List.getElem?_cons_zero, List.getElem?_cons_succ, List.getElem?_nil, List.set_cons_zero, List.set_cons_succ, chkL_of, chkT_of, Nat.zero_le, Nat.reduceLeDiff, Nat.reduceSub, Nat.reduceAdd, Nat.sub_self, Bool.not_false, Bool.not_true]
    rfl

theorem ok_is_moves {f : Addr} {fd : FuncData} {k : Nat} (B : Bt mg) (D : Fun K "is_moves" "is_moves" s_is_moves f fd) (C_is_move : Cl P w K mg base k "is_move" 2 F_is_move) (C_is_row : Cl P w K mg base k "is_row" 1 F_is_row) :
    FnOk P w K mg base CX0 (k + 1) f fd ["a", "b", "value"] (spD K ["a", "b", "value"].length (runD N_is_moves.length T_is_moves)) := by
  have nd := sc_is_moves.nd
  refine fnD D sc_is_moves fun cdv A outer s H E hr => ?_
  exact (dss_cons (ds_if (DW.t (dw_or (dt_not (dt_val (de_isi isT_tuple B.isinstance B.tuple (dv 2)).s)) (dw_or1 (dt_cmp (o_eq hr) (de_cb c_len B.len (das_cons (dv 2) das_nil)).s dint.s))))
  (dss_one (ds_ret dbool))
  dss_nil)
  (dss_cons (ds_if (DW.t (dw_or (dt_not (dt_val (de_cb (c_all rfl) B.all (das_cons (df_lc ([("row", 4)] : List (Str × Nat)) rfl nd (di_seq (dc 2)) (blkOk_by (N := N_is_moves) (sc := (defScope s_is_moves)) (scope := mkS [(".0", .local), ("row", .local), ("is_row", .globalImplicit), ("len", .globalImplicit), ("a", .free)]) (by decide +kernel)) (dgr_name 4) (fun _ _ _ _ _ => dg_name 4 nd) (fun _ _ _ _ _ => dts_nil) (fun _ _ _ _ _ => (de_and (de_call (C_is_row.fc hr (Nat.le_refl _)) (da_cons (dc 4) da_nil)).s (de_oneE (de_cmp (o_eq hr) (de_cb c_len B.len (das_cons (dv 4) das_nil)).s (de_cb c_len B.len (das_cons (dv 0) das_nil)).s))))).s das_nil)).s)) (dw_or (dt_cmp (o_ne hr) (de_ix (dv 2) dint.s).s (dv 0)) (dw_or1 (dt_cmp (o_ne hr) (de_ix (dv 2) (de_neg dint.s).s).s (dv 1))))))
  (dss_one (ds_ret dbool))
  dss_nil)
  (dss_one (ds_ret (de_cb (c_all rfl) B.all (das_cons (df_lc ([("k", 3)] : List (Str × Nat)) rfl nd (di_range1 B.range (de_bin o_sub (de_cb c_len B.len (das_cons (dv 2) das_nil)).s dint.s).s) (blkOk_by (N := N_is_moves) (sc := (defScope s_is_moves)) (scope := mkS [(".0", .local), ("k", .local), ("is_move", .globalImplicit), ("value", .free)]) (by decide +kernel)) (dgr_name 3) (fun _ _ _ _ _ => dg_name 3 nd) (fun _ _ _ _ _ => dts_nil) (fun _ _ _ _ _ => (de_call (C_is_move.fc hr (Nat.le_refl _)) (da_cons (de_ix (dv 2) (dv 3)) (da_cons (de_ix (dv 2) (de_bin o_add (dv 3) dint.s).s) da_nil))))).s das_nil))))))

/-! check_levels -/
abbrev s_check_levels : Stmt := topS 17
abbrev N_check_levels : List Str := ["a", "b", "value"]
theorem sc_check_levels : FnScope N_check_levels ["a", "b", "value"] (defScope s_check_levels) := ⟨rfl, rfl, rfl, by decide +kernel, rfl, by decide +kernel, by decide +kernel⟩
def T_check_levels : En → Option Ou :=
  (sSeq (sIf (kB (eCall F_is_named (aC (eC 2) (aC (eK (.str "moves")) (aC (eK (.int 2)) aN)))))
  (sRet (eCall F_is_moves (aC (eC 0) (aC (eC 1) (aC (eBin dIx (eV 2) (eK (.int 1))) aN)))))
  sNil)
  (sSeq (sIf (kB (eCall F_is_named (aC (eC 2) (aC (eK (.str "less")) (aC (eK (.int 2)) aN)))))
  (sRet (eAnd (eCall F_is_from (aC (eBin dIx (eV 2) (eK (.int 1))) (aC (eK (.int 1)) (aC (eCb dLen (aC (eV 0) aN)) aN)))) (eBin dLt (eCb dSum (aC (eSl (eV 0) oN (oS (eBin dIx (eV 2) (eK (.int 1))))) aN)) (eCb dSum (aC (eSl (eV 1) oN (oS (eBin dIx (eV 2) (eK (.int 1))))) aN)))))
  sNil)
  (sRet (eAnd (eCall F_is_named (aC (eC 2) (aC (eK (.str "totals")) (aC (eK (.int 1)) aN)))) (eBin dNe (eCb dSum (aC (eV 0) aN)) (eCb dSum (aC (eV 1) aN)))))))

def F_check_levels : List PyData → Option PyData := runD N_check_levels.length T_check_levels
theorem fix_check_levels : ∀ ds d, ds.length = 3 → F_check_levels ds = some d → runD N_check_levels.length T_check_levels ds = some d := fun _ _ _ h => h

theorem check_e {a b : List Int} (h6 : a.length ≤ 1000) {L S B : Nat} (hL : L ≤ 100000) {d : PyData} (h : bdD L S B d = true) : F_check_levels [.tuple (a.map .int), .tuple (b.map .int), d] = some (.bool (lvB a b d)) := by
  unfold F_check_levels T_check_levels lvB
  have n1 := is_named_g sh_moves (n := 2) (by decide) h
  have n2 := is_named_g sh_less (n := 2) (by decide) h
  have n3 := is_named_g sh_totals (n := 1) (by decide) h
  cases hm : namedB ("moves" : Str) 2 d with
  | true =>
    rw [hm] at n1
    obtain ⟨x, y, rfl⟩ := named_two hm
    have hy := bd_nd hL _ ((bd_tup.mp h).2 y (by simp))
    have e1 : atI [PyData.str x, y] 1 = some y := rfl
    have ei : item1 (.tuple [.str x, y]) = y := rfl
    simp -implicitDefEqProofs only [z_bool_none, z_bool_bool, z_bool_int, z_bool_str, z_bool_list, z_bool_tuple, z_int_none, z_int_bool, z_int_int, z_int_str, z_int_list, z_int_tuple, z_tuple_none, z_tuple_bool, z_tuple_int, z_tuple_str, z_tuple_list, z_tuple_tuple, z_list_none, z_list_bool, z_list_int, z_list_str, z_list_list, z_list_tuple, z_str_none, z_str_bool, z_str_int, z_str_str, z_str_list, z_str_tuple, z_dict_none, z_dict_bool, z_dict_int, z_dict_str, z_dict_list, z_dict_tuple, q_seq, q_thn, q_thr, q_thb, q_thc, q_thro, q_if, q_ift, q_iff, q_nil, q_ret, q_retN, q_set, q_setO, q_setC, q_setW, q_frz, q_frzo, q_frzc, q_frzu, q_frzt, q_frzt', q_frzr, q_V, q_C, q_ow, q_Vc, q_Vo, q_Cc, q_Oo, q_K, q_N, q_aC, q_aC1, q_tup, q_lst, q_L, q_b, q_bb, q_kB, q_kNot, q_kAnd, q_kOr, q_kit, q_kif, q_kot, q_kof, q_eAnd, q_eOr, q_eit, q_eif, q_eot, q_eof, q_eNot, q_notO, q_eIf, q_eIt, q_eIff, q_bin, q_bin1, q_ch, q_ch1, q_ch2, q_ch3t, q_ch3f, q_addI, q_addS, q_addT, q_addL, q_sub, q_mul, q_mulT, q_imul, q_iadd, q_iaddS, q_fdiv, q_mod, q_pow, q_lsh, q_rsh, q_band, q_lt, q_le, q_gt, q_ge, q_eqI, q_neI, q_isB, q_isN, q_isnB, q_isnN, q_neg, q_un, q_revL, q_revT, q_ixL, q_ixT, q_iOf, q_oN, q_oS, q_sl, q_sl1, q_sl2, q_slT, q_slL, q_call, q_cb, q_cf, q_lenL, q_lenT, q_intI, q_intB, q_abs, q_tupL, q_tupT, q_listL, q_listT, q_sort, q_all, q_max2, q_min2, q_sumL, q_sumT, q_isi, q_isO, q_iseq, q_itL, q_itT, q_revF, q_lrv, q_r1, q_r2, q_r2', q_gN, q_gT, q_gTL, q_sAn, q_sAc, q_app, q_app1, q_app2, q_put, q_put1, q_put2, q_put3, q_aug, q_unp, q_unp1, q_nxO, q_par, q_parO, q_run, q_outr, q_outn, start0, Option.bind_some, Option.bind_none, Option.map_some, Option.map_none, List.map_cons, List.map_nil, List.length_cons, List.length_nil, List.replicate_succ, List.replicate_zero, List.cons_append, List.nil_append, List.append_nil, List.getElem?_cons_zero, List.getElem?_cons_succ, List.getElem?_nil, List.set_cons_zero, List.set_cons_succ, chkL_of, chkT_of, Nat.zero_le, Nat.reduceLeDiff, Nat.reduceSub, Nat.reduceAdd, Nat.sub_self, Bool.not_false, Bool.not_true, n1, e1, is_moves_e (b := b) h6 hy, ei, if_pos]
    try rfl
  | false =>
    rw [hm] at n1
    cases hl : namedB ("less" : Str) 2 d with
    | true =>
      rw [hl] at n2
      obtain ⟨x, y, rfl⟩ := named_two hl
      have hy := bd_nd hL _ ((bd_tup.mp h).2 y (by simp))
      have e1 : atI [PyData.str x, y] 1 = some y := rfl
      have ei : item1 (.tuple [.str x, y]) = y := rfl
      have ef := is_from_g 1 (a.length : Int) hy
      show _ = some (PyData.bool (lessB a b y))
      cases y with
      | int k =>
        show _ = some (PyData.bool ((decide (1 ≤ k) && decide (k ≤ (a.length : Int))) && decide ((a.take k.toNat).sum < (b.take k.toNat).sum)))
        replace ef : F_is_from [.int k, .int 1, .int (a.length : Nat)] = some (.bool (decide (1 ≤ k) && decide (k ≤ (a.length : Int)))) := ef
        cases hc : (decide (1 ≤ k) && decide (k ≤ (a.length : Int))) with
        | false =>
          rw [hc] at ef
          simp -implicitDefEqProofs only [z_bool_none, z_bool_bool, z_bool_int, z_bool_str, z_bool_list, z_bool_tuple, z_int_none, z_int_bool, z_int_int, z_int_str, z_int_list, z_int_tuple, z_tuple_none, z_tuple_bool, z_tuple_int, z_tuple_str, z_tuple_list, z_tuple_tuple, z_list_none, z_list_bool, z_list_int, z_list_str, z_list_list, z_list_tuple, z_str_none, z_str_bool, z_str_int, z_str_str, z_str_list, z_str_tuple, z_dict_none, z_dict_bool, z_dict_int, z_dict_str, z_dict_list, z_dict_tuple, q_seq, q_thn, q_thr, q_thb, q_thc, q_thro, q_if, q_ift, q_iff, q_nil, q_ret, q_retN, q_set, q_setO, q_setC, q_setW, q_frz, q_frzo, q_frzc, q_frzu, q_frzt, q_frzt', q_frzr, q_V, q_C, q_ow, q_Vc, q_Vo, q_Cc, q_Oo, q_K, q_N, q_aC, q_aC1, q_tup, q_lst, q_L, q_b, q_bb, q_kB, q_kNot, q_kAnd, q_kOr, q_kit, q_kif, q_kot, q_kof, q_eAnd, q_eOr, q_eit, q_eif, q_eot, q_eof, q_eNot, q_notO, q_eIf, q_eIt, q_eIff, q_bin, q_bin1, q_ch, q_ch1, q_ch2, q_ch3t, q_ch3f, q_addI, q_addS, q_addT, q_addL, q_sub, q_mul, q_mulT, q_imul, q_iadd, q_iaddS, q_fdiv, q_mod, q_pow, q_lsh, q_rsh, q_band, q_lt, q_le, q_gt, q_ge, q_eqI, q_neI, q_isB, q_isN, q_isnB, q_isnN, q_neg, q_un, q_revL, q_revT, q_ixL, q_ixT, q_iOf, q_oN, q_oS, q_sl, q_sl1, q_sl2, q_slT, q_slL, q_call, q_cb, q_cf, q_lenL, q_lenT, q_intI, q_intB, q_abs, q_tupL, q_tupT, q_listL, q_listT, q_sort, q_all, q_max2, q_min2, q_sumL, q_sumT, q_isi, q_isO, q_iseq, q_itL, q_itT, q_revF, q_lrv, q_r1, q_r2, q_r2', q_gN, q_gT, q_gTL, q_sAn, q_sAc, q_app, q_app1, q_app2, q_put, q_put1, q_put2, q_put3, q_aug, q_unp, q_unp1, q_nxO, q_par, q_parO, q_run, q_outr, q_outn, start0, Option.bind_some, Option.bind_none, Option.map_some, Option.map_none, List.map_cons, List.map_nil, List.length_cons, List.length_nil, List.replicate_succ, List.replicate_zero, List.cons_append, List.nil_append, List.append_nil, List.getElem?_cons_zero, List.getElem?_cons_succ, List.getElem?_nil, List.set_cons_zero, List.set_cons_succ, chkL_of, chkT_of, Nat.zero_le, Nat.reduceLeDiff, Nat.reduceSub, Nat.reduceAdd, Nat.sub_self, Bool.not_false, Bool.not_true, n1, n2, e1, List.length_map, ef, bOf, Bool.false_and]
        | true =>
          rw [hc] at ef
          rw [Bool.and_eq_true, decide_eq_true_eq, decide_eq_true_eq] at hc
          obtain ⟨j, rfl⟩ : ∃ j : Nat, k = j := ⟨k.toNat, by omega⟩
          rw [Int.toNat_natCast]
          simp -implicitDefEqProofs only [z_bool_none, z_bool_bool, z_bool_int, z_bool_str, z_bool_list, z_bool_tuple, z_int_none, z_int_bool, z_int_int, z_int_str, z_int_list, z_int_tuple, z_tuple_none, z_tuple_bool, z_tuple_int, z_tuple_str, z_tuple_list, z_tuple_tuple, z_list_none, z_list_bool, z_list_int, z_list_str, z_list_list, z_list_tuple, z_str_none, z_str_bool, z_str_int, z_str_str, z_str_list, z_str_tuple, z_dict_none, z_dict_bool, z_dict_int, z_dict_str, z_dict_list, z_dict_tuple, q_seq, q_thn, q_thr, q_thb, q_thc, q_thro, q_if, q_ift, q_iff, q_nil, q_ret, q_retN, q_set, q_setO, q_setC, q_setW, q_frz, q_frzo, q_frzc, q_frzu, q_frzt, q_frzt', q_frzr, q_V, q_C, q_ow, q_Vc, q_Vo, q_Cc, q_Oo, q_K, q_N, q_aC, q_aC1, q_tup, q_lst, q_L, q_b, q_bb, q_kB, q_kNot, q_kAnd, q_kOr, q_kit, q_kif, q_kot, q_kof, q_eAnd, q_eOr, q_eit, q_eif, q_eot, q_eof, q_eNot, q_notO, q_eIf, q_eIt, q_eIff, q_bin, q_bin1, q_ch, q_ch1, q_ch2, q_ch3t, q_ch3f, q_addI, q_addS, q_addT, q_addL, q_sub, q_mul, q_mulT, q_imul, q_iadd, q_iaddS, q_fdiv, q_mod, q_pow, q_lsh, q_rsh, q_band, q_lt, q_le, q_gt, q_ge, q_eqI, q_neI, q_isB, q_isN, q_isnB, q_isnN, q_neg, q_un, q_revL, q_revT, q_ixL, q_ixT, q_iOf, q_oN, q_oS, q_sl, q_sl1, q_sl2, q_slT, q_slL, q_call, q_cb, q_cf, q_lenL, q_lenT, q_intI, q_intB, q_abs, q_tupL, q_tupT, q_listL, q_listT, q_sort, q_all, q_max2, q_min2, q_sumL, q_sumT, q_isi, q_isO, q_iseq, q_itL, q_itT, q_revF, q_lrv, q_r1, q_r2, q_r2', q_gN, q_gT, q_gTL, q_sAn, q_sAc, q_app, q_app1, q_app2, q_put, q_put1, q_put2, q_put3, q_aug, q_unp, q_unp1, q_nxO, q_par, q_parO, q_run, q_outr, q_outn, start0, Option.bind_some, Option.bind_none, Option.map_some, Option.map_none, List.map_cons, List.map_nil, List.length_cons, List.length_nil, List.replicate_succ, List.replicate_zero, List.cons_append, List.nil_append, List.append_nil, List.getElem?_cons_zero, List.getElem?_cons_succ, List.getElem?_nil, List.set_cons_zero, List.set_cons_succ, chkL_of, chkT_of, Nat.zero_le, Nat.reduceLeDiff, Nat.reduceSub, Nat.reduceAdd, Nat.sub_self, Bool.not_false, Bool.not_true, n1, n2, e1, List.length_map, ef, bOf, cut_to, ← List.map_take, iL_map, Bool.true_and]
      | _ =>
        have ef := ef
        replace ef : F_is_from [_, .int 1, .int (a.length : Nat)] = some (.bool false) := ef
        simp -implicitDefEqProofs only [z_bool_none, z_bool_bool, z_bool_int, z_bool_str, z_bool_list, z_bool_tuple, z_int_none, z_int_bool, z_int_int, z_int_str, z_int_list, z_int_tuple, z_tuple_none, z_tuple_bool, z_tuple_int, z_tuple_str, z_tuple_list, z_tuple_tuple, z_list_none, z_list_bool, z_list_int, z_list_str, z_list_list, z_list_tuple, z_str_none, z_str_bool, z_str_int, z_str_str, z_str_list, z_str_tuple, z_dict_none, z_dict_bool, z_dict_int, z_dict_str, z_dict_list, z_dict_tuple, q_seq, q_thn, q_thr, q_thb, q_thc, q_thro, q_if, q_ift, q_iff, q_nil, q_ret, q_retN, q_set, q_setO, q_setC, q_setW, q_frz, q_frzo, q_frzc, q_frzu, q_frzt, q_frzt', q_frzr, q_V, q_C, q_ow, q_Vc, q_Vo, q_Cc, q_Oo, q_K, q_N, q_aC, q_aC1, q_tup, q_lst, q_L, q_b, q_bb, q_kB, q_kNot, q_kAnd, q_kOr, q_kit, q_kif, q_kot, q_kof, q_eAnd, q_eOr, q_eit, q_eif, q_eot, q_eof, q_eNot, q_notO, q_eIf, q_eIt, q_eIff, q_bin, q_bin1, q_ch, q_ch1, q_ch2, q_ch3t, q_ch3f, q_addI, q_addS, q_addT, q_addL, q_sub, q_mul, q_mulT, q_imul, q_iadd, q_iaddS, q_fdiv, q_mod, q_pow, q_lsh, q_rsh, q_band, q_lt, q_le, q_gt, q_ge, q_eqI, q_neI, q_isB, q_isN, q_isnB, q_isnN, q_neg, q_un, q_revL, q_revT, q_ixL, q_ixT, q_iOf, q_oN, q_oS, q_sl, q_sl1, q_sl2, q_slT, q_slL, q_call, q_cb, q_cf, q_lenL, q_lenT, q_intI, q_intB, q_abs, q_tupL, q_tupT, q_listL, q_listT, q_sort, q_all, q_max2, q_min2, q_sumL, q_sumT, q_isi, q_isO, q_iseq, q_itL, q_itT, q_revF, q_lrv, q_r1, q_r2, q_r2', q_gN, q_gT, q_gTL, q_sAn, q_sAc, q_app, q_app1, q_app2, q_put, q_put1, q_put2, q_put3, q_aug, q_unp, q_unp1, q_nxO, q_par, q_parO, q_run, q_outr, q_outn, start0, Option.bind_some, Option.bind_none, Option.map_some, Option.map_none, List.map_cons, List.map_nil, List.length_cons, List.length_nil, List.replicate_succ, List.replicate_zero, List.cons_append, List.nil_append, List.append_nil, List.getElem?_cons_zero, List.getElem?_cons_succ, List.getElem?_nil, List.set_cons_zero, List.set_cons_succ, chkL_of, chkT_of, Nat.zero_le, Nat.reduceLeDiff, Nat.reduceSub, Nat.reduceAdd, Nat.sub_self, Bool.not_false, Bool.not_true, n1, n2, e1, List.length_map, ef, bOf]
        try rfl
    | false =>
      rw [hl] at n2
      show _ = some (PyData.bool (namedB ("totals" : Str) 1 d && !(a.sum == b.sum)))
      cases ht : namedB ("totals" : Str) 1 d with
      | true =>
        rw [ht] at n3
        simp -implicitDefEqProofs only [z_bool_none, z_bool_bool, z_bool_int, z_bool_str, z_bool_list, z_bool_tuple, z_int_none, z_int_bool, z_int_int, z_int_str, z_int_list, z_int_tuple, z_tuple_none, z_tuple_bool, z_tuple_int, z_tuple_str, z_tuple_list, z_tuple_tuple, z_list_none, z_list_bool, z_list_int, z_list_str, z_list_list, z_list_tuple, z_str_none, z_str_bool, z_str_int, z_str_str, z_str_list, z_str_tuple, z_dict_none, z_dict_bool, z_dict_int, z_dict_str, z_dict_list, z_dict_tuple, q_seq, q_thn, q_thr, q_thb, q_thc, q_thro, q_if, q_ift, q_iff, q_nil, q_ret, q_retN, q_set, q_setO, q_setC, q_setW, q_frz, q_frzo, q_frzc, q_frzu, q_frzt, q_frzt', q_frzr, q_V, q_C, q_ow, q_Vc, q_Vo, q_Cc, q_Oo, q_K, q_N, q_aC, q_aC1, q_tup, q_lst, q_L, q_b, q_bb, q_kB, q_kNot, q_kAnd, q_kOr, q_kit, q_kif, q_kot, q_kof, q_eAnd, q_eOr, q_eit, q_eif, q_eot, q_eof, q_eNot, q_notO, q_eIf, q_eIt, q_eIff, q_bin, q_bin1, q_ch, q_ch1, q_ch2, q_ch3t, q_ch3f, q_addI, q_addS, q_addT, q_addL, q_sub, q_mul, q_mulT, q_imul, q_iadd, q_iaddS, q_fdiv, q_mod, q_pow, q_lsh, q_rsh, q_band, q_lt, q_le, q_gt, q_ge, q_eqI, q_neI, q_isB, q_isN, q_isnB, q_isnN, q_neg, q_un, q_revL, q_revT, q_ixL, q_ixT, q_iOf, q_oN, q_oS, q_sl, q_sl1, q_sl2, q_slT, q_slL, q_call, q_cb, q_cf, q_lenL, q_lenT, q_intI, q_intB, q_abs, q_tupL, q_tupT, q_listL, q_listT, q_sort, q_all, q_max2, q_min2, q_sumL, q_sumT, q_isi, q_isO, q_iseq, q_itL, q_itT, q_revF, q_lrv, q_r1, q_r2, q_r2', q_gN, q_gT, q_gTL, q_sAn, q_sAc, q_app, q_app1, q_app2, q_put, q_put1, q_put2, q_put3, q_aug, q_unp, q_unp1, q_nxO, q_par, q_parO, q_run, q_outr, q_outn, start0, Option.bind_some, Option.bind_none, Option.map_some, Option.map_none, List.map_cons, List.map_nil, List.length_cons, List.length_nil, List.replicate_succ, List.replicate_zero, List.cons_append, List.nil_append, List.append_nil, List.getElem?_cons_zero, List.getElem?_cons_succ, List.getElem?_nil, List.set_cons_zero, List.set_cons_succ, chkL_of, chkT_of, Nat.zero_le, Nat.reduceLeDiff, Nat.reduceSub, Nat.reduceAdd, Nat.sub_self, Bool.not_false, Bool.not_true, n1, n2, n3, bOf, iL_map, Bool.true_and]
      | false =>
        rw [ht] at n3
        simp -implicitDefEqProofs only [z_bool_none, z_bool_bool, z_bool_int, z_bool_str, z_bool_list, z_bool_tuple, z_int_none, z_int_bool, z_int_int, z_int_str, z_int_list, z_int_tuple, z_tuple_none, z_tuple_bool, z_tuple_int, z_tuple_str, z_tuple_list, z_tuple_tuple, z_list_none, z_list_bool, z_list_int, z_list_str, z_list_list, z_list_tuple, z_str_none, z_str_bool, z_str_int, z_str_str, z_str_list, z_str_tuple, z_dict_none, z_dict_bool, z_dict_int, z_dict_str, z_dict_list, z_dict_tuple, q_seq, q_thn, q_thr, q_thb, q_thc, q_thro, q_if, q_ift, q_iff, q_nil, q_ret, q_retN, q_set, q_setO, q_setC, q_setW, q_frz, q_frzo, q_frzc, q_frzu, q_frzt, q_frzt', q_frzr, q_V, q_C, q_ow, q_Vc, q_Vo, q_Cc, q_Oo, q_K, q_N, q_aC, q_aC1, q_tup, q_lst, q_L, q_b, q_bb, q_kB, q_kNot, q_kAnd, q_kOr, q_kit, q_kif, q_kot, q_kof, q_eAnd, q_eOr, q_eit, q_eif, q_eot, q_eof, q_eNot, q_notO, q_eIf, q_eIt, q_eIff, q_bin, q_bin1, q_ch, q_ch1, q_ch2, q_ch3t, q_ch3f, q_addI, q_addS, q_addT, q_addL, q_sub, q_mul, q_mulT, q_imul, q_iadd, q_iaddS, q_fdiv, q_mod, q_pow, q_lsh, q_rsh, q_band, q_lt, q_le, q_gt, q_ge, q_eqI, q_neI, q_isB, q_isN, q_isnB, q_isnN, q_neg, q_un, q_revL, q_revT, q_ixL, q_ixT, q_iOf, q_oN, q_oS, q_sl, q_sl1, q_sl2, q_slT, q_slL, q_call, q_cb, q_cf, q_lenL, q_lenT, q_intI, q_intB, q_abs, q_tupL, q_tupT, q_listL, q_listT, q_sort, q_all, q_max2, q_min2, q_sumL, q_sumT, q_isi, q_isO, q_iseq, q_itL, q_itT, q_revF, q_lrv, q_r1, q_r2, q_r2', q_gN, q_gT, q_gTL, q_sAn, q_sAc, q_app, q_app1, q_app2, q_put, q_put1, q_put2, q_put3, q_aug, q_unp, q_unp1, q_nxO, q_par, q_parO, q_run, q_outr, q_outn, start0, Option.bind_some, Option.bind_none, Option.map_some, Option.map_none, List.map_cons, List.map_nil, List.length_cons, List.length_nil, List.replicate_succ, List.replicate_zero, List.cons_append, List.nil_append, List.append_nil, List.getElem?_cons_zero, List.getElem?_cons_succ, List.getElem?_nil, List.set_cons_zero, List.set_cons_succ, chkL_of, chkT_of, Nat.zero_le, Nat.reduceLeDiff, Nat.reduceSub, Nat.reduceAdd, Nat.sub_self, Bool.not_false, Bool.not_true, n1, n2, n3, bOf, Bool.false_and]

theorem ok_check_levels {f : Addr} {fd : FuncData} {k : Nat} (B : Bt mg) (D : Fun K "check_levels" "check_levels" s_check_levels f fd) (C_is_named : Cl P w K mg base k "is_named" 3 F_is_named) (C_is_moves : Cl P w K mg base k "is_moves" 3 F_is_moves) (C_is_from : Cl P w K mg base k "is_from" 3 F_is_from) :
    FnOk P w K mg base CX0 (k + 1) f fd ["a", "b", "value"] (spD K ["a", "b", "value"].length (runD N_check_levels.length T_check_levels)) := by
  have nd := sc_check_levels.nd
  refine fnD D sc_check_levels fun cdv A outer s H E hr => ?_
  exact (dss_cons (ds_if (dt_val (de_call (C_is_named.fc hr (Nat.le_refl _)) (da_cons (dc 2) (da_cons dstr (da_cons dint da_nil)))).s)
  (dss_one (ds_ret (de_call (C_is_moves.fc hr (Nat.le_refl _)) (da_cons (dc 0) (da_cons (dc 1) (da_cons (de_ix (dv 2) dint.s) da_nil))))))
  dss_nil)
  (dss_cons (ds_if (dt_val (de_call (C_is_named.fc hr (Nat.le_refl _)) (da_cons (dc 2) (da_cons dstr (da_cons dint da_nil)))).s)
  (dss_one (ds_ret (de_and (de_call (C_is_from.fc hr (Nat.le_refl _)) (da_cons (de_ix (dv 2) dint.s) (da_cons dint (da_cons (de_cb c_len B.len (das_cons (dv 0) das_nil)) da_nil)))).s (de_oneE (de_cmp o_lt (de_cb (c_sum rfl) B.sum (das_cons (de_sl (dv 0) do_n (do_s (de_ix (dv 2) dint.s).s)).s das_nil)).s (de_cb (c_sum rfl) B.sum (das_cons (de_sl (dv 1) do_n (do_s (de_ix (dv 2) dint.s).s)).s das_nil)).s)))))
  dss_nil)
  (dss_one (ds_ret (de_and (de_call (C_is_named.fc hr (Nat.le_refl _)) (da_cons (dc 2) (da_cons dstr (da_cons dint da_nil)))).s (de_oneE (de_cmp (o_ne hr) (de_cb (c_sum rfl) B.sum (das_cons (dv 0) das_nil)).s (de_cb (c_sum rfl) B.sum (das_cons (dv 1) das_nil)).s)))))))

/-! _law_cell -/
abbrev s__law_cell : Stmt := topS 19
abbrev N__law_cell : List Str := ["script", "k"]
theorem sc__law_cell : FnScope N__law_cell ["script", "k"] (defScope s__law_cell) := ⟨rfl, rfl, rfl, by decide +kernel, rfl, by decide +kernel, by decide +kernel⟩
def T__law_cell : En → Option Ou :=
  (sSeq (sIf (kB (eBin dLt (eV 1) (eCb dLen (aC (eV 0) aN))))
  (sRet (eBin dIx (eV 0) (eV 1)))
  sNil)
  (sRet (eK (.int 0))))

/-- the script's number at a place, or 0 -/
def cellI (ns : List Int) (k : Int) : Int := if k < ns.length then (atI ns k).getD 0 else 0
def F__law_cell : List PyData → Option PyData
  | [.list xs, .int k] => (iL xs).bind fun ns => if 0 ≤ k then some (.int (cellI ns k)) else none
  | _ => none
theorem fix__law_cell : ∀ ds d, ds.length = 2 → F__law_cell ds = some d → runD N__law_cell.length T__law_cell ds = some d := by
  intro ds d hl h
  clear hl
  unfold F__law_cell at h
  split at h
  · rename_i xs k
    cases e : iL xs with
    | none => rw [e] at h; cases h
    | some ns =>
      rw [e] at h
      obtain rfl := iL_some e
      replace h : (if 0 ≤ k then some (PyData.int (cellI ns k)) else none) = some d := h
      split at h
      · cases h
        rename_i h0
        unfold T__law_cell cellI
        by_cases hk : k < ns.length
        · have : ∃ v, atI ns k = some v := by
            unfold atI ixN
            rw [if_pos h0, if_pos hk]
            exact ⟨ns[k.toNat]'(by omega), by simp⟩
          obtain ⟨v, e⟩ := this
          simp -implicitDefEqProofs only [z_bool_none, z_bool_bool, z_bool_int, z_bool_str, z_bool_list, z_bool_tuple, z_int_none, z_int_bool, z_int_int, z_int_str, z_int_list, z_int_tuple, z_tuple_none, z_tuple_bool, z_tuple_int, z_tuple_str, z_tuple_list, z_tuple_tuple, z_list_none, z_list_bool, z_list_int, z_list_str, z_list_list, z_list_tuple, z_str_none, z_str_bool, z_str_int, z_str_str, z_str_list, z_str_tuple, z_dict_none, z_dict_bool, z_dict_int, z_dict_str, z_dict_list, z_dict_tuple, q_seq, q_thn, q_thr, q_thb, q_thc, q_thro, q_if, q_ift, q_iff, q_nil, q_ret, q_retN, q_set, q_setO, q_setC, q_setW, q_frz, q_frzo, q_frzc, q_frzu, q_frzt, q_frzt', q_frzr, q_V, q_C, q_ow, q_Vc, q_Vo, q_Cc, q_Oo, q_K, q_N, q_aC, q_aC1, q_tup, q_lst, q_L, q_b, q_bb, q_kB, q_kNot, q_kAnd, q_kOr, q_kit, q_kif, q_kot, q_kof, q_eAnd, q_eOr, q_eit, q_eif, q_eot, q_eof, q_eNot, q_notO, q_eIf, q_eIt, q_eIff, q_bin, q_bin1, q_ch, q_ch1, q_ch2, q_ch3t, q_ch3f, q_addI, q_addS, q_addT, q_addL, q_sub, q_mul, q_mulT, q_imul, q_iadd, q_iaddS, q_fdiv, q_mod, q_pow, q_lsh, q_rsh, q_band, q_lt, q_le, q_gt, q_ge, q_eqI, q_neI, q_isB, q_isN, q_isnB, q_isnN, q_neg, q_un, q_revL, q_revT, q_ixL, q_ixT, q_iOf, q_oN, q_oS, q_sl, q_sl1, q_sl2, q_slT, q_slL, q_call, q_cb, q_cf, q_lenL, q_lenT, q_intI, q_intB, q_abs, q_tupL, q_tupT, q_listL, q_listT, q_sort, q_all, q_max2, q_min2, q_sumL, q_sumT, q_isi, q_isO, q_iseq, q_itL, q_itT, q_revF, q_lrv, q_r1, q_r2, q_r2', q_gN, q_gT, q_gTL, q_sAn, q_sAc, q_app, q_app1, q_app2, q_put, q_put1, q_put2, q_put3, q_aug, q_unp, q_unp1, q_nxO, q_par, q_parO, q_run, q_outr, q_outn, start0, Option.bind_some, Option.bind_none, Option.map_some, Option.map_none, List.map_cons, List.map_nil, List.length_cons, List.length_nil, List.replicate_succ, List.replicate_zero, List.cons_append, List.nil_append, List.append_nil, List.getElem?_cons_zero, List.getElem?_cons_succ, List.getElem?_nil, List.set_cons_zero, List.set_cons_succ, chkL_of, chkT_of, Nat.zero_le, Nat.reduceLeDiff, Nat.reduceSub, Nat.reduceAdd, Nat.sub_self, Bool.not_false, Bool.not_true, List.length_map, atI_mapInt, decide_eq_true hk, e, if_pos hk, Option.getD_some]
        · simp -implicitDefEqProofs only [z_bool_none, z_bool_bool, z_bool_int, z_bool_str, z_bool_list, z_bool_tuple, z_int_none, z_int_bool, z_int_int, z_int_str, z_int_list, z_int_tuple, z_tuple_none, z_tuple_bool, z_tuple_int, z_tuple_str, z_tuple_list, z_tuple_tuple, z_list_none, z_list_bool, z_list_int, z_list_str, z_list_list, z_list_tuple, z_str_none, z_str_bool, z_str_int, z_str_str, z_str_list, z_str_tuple, z_dict_none, z_dict_bool, z_dict_int, z_dict_str, z_dict_list, z_dict_tuple, q_seq, q_thn, q_thr, q_thb, q_thc, q_thro, q_if, q_ift, q_iff, q_nil, q_ret, q_retN, q_set, q_setO, q_setC, q_setW, q_frz, q_frzo, q_frzc, q_frzu, q_frzt, q_frzt', q_frzr, q_V, q_C, q_ow, q_Vc, q_Vo, q_Cc, q_Oo, q_K, q_N, q_aC, q_aC1, q_tup, q_lst, q_L, q_b, q_bb, q_kB, q_kNot, q_kAnd, q_kOr, q_kit, q_kif, q_kot, q_kof, q_eAnd, q_eOr, q_eit, q_eif, q_eot, q_eof, q_eNot, q_notO, q_eIf, q_eIt, q_eIff, q_bin, q_bin1, q_ch, q_ch1, q_ch2, q_ch3t, q_ch3f, q_addI, q_addS, q_addT, q_addL, q_sub, q_mul, q_mulT, q_imul, q_iadd, q_iaddS, q_fdiv, q_mod, q_pow, q_lsh, q_rsh, q_band, q_lt, q_le, q_gt, q_ge, q_eqI, q_neI, q_isB, q_isN, q_isnB, q_isnN, q_neg, q_un, q_revL, q_revT, q_ixL, q_ixT, q_iOf, q_oN, q_oS, q_sl, q_sl1, q_sl2, q_slT, q_slL, q_call, q_cb, q_cf, q_lenL, q_lenT, q_intI, q_intB, q_abs, q_tupL, q_tupT, q_listL, q_listT, q_sort, q_all, q_max2, q_min2, q_sumL, q_sumT, q_isi, q_isO, q_iseq, q_itL, q_itT, q_revF, q_lrv, q_r1, q_r2, q_r2', q_gN, q_gT, q_gTL, q_sAn, q_sAc, q_app, q_app1, q_app2, q_put, q_put1, q_put2, q_put3, q_aug, q_unp, q_unp1, q_nxO, q_par, q_parO, q_run, q_outr, q_outn, start0, Option.bind_some, Option.bind_none, Option.map_some, Option.map_none, List.map_cons, List.map_nil, List.length_cons, List.length_nil, List.replicate_succ, List.replicate_zero, List.cons_append, List.nil_append, List.append_nil, List.getElem?_cons_zero, List.getElem?_cons_succ, List.getElem?_nil, List.set_cons_zero, List.set_cons_succ, chkL_of, chkT_of, Nat.zero_le, Nat.reduceLeDiff, Nat.reduceSub, Nat.reduceAdd, Nat.sub_self, Bool.not_false, Bool.not_true, List.length_map, atI_mapInt, decide_eq_false hk, if_neg hk]
      · cases h
  · cases h
theorem cell_eq (ns : List Int) {k : Int} (h : 0 ≤ k) : F__law_cell [scrD ns, .int k] = some (.int (cellI ns k)) := by
  show (iL (ns.map .int)).bind _ = _
  rw [iL_map]
  exact if_pos h

theorem ok__law_cell {f : Addr} {fd : FuncData} {k : Nat} (B : Bt mg) (D : Fun K "_law_cell" "_law_cell" s__law_cell f fd) :
    FnOk P w K mg base CX0 (k + 1) f fd ["script", "k"] (spD K ["script", "k"].length (runD N__law_cell.length T__law_cell)) := by
  have nd := sc__law_cell.nd
  refine fnD D sc__law_cell fun cdv A outer s H E hr => ?_
  exact (dss_cons (ds_if (dt_cmp o_lt (dv 1) (de_cb c_len B.len (das_cons (dv 0) das_nil)).s)
  (dss_one (ds_ret (de_ix (dv 0) (dv 1))))
  dss_nil)
  (dss_one (ds_ret dint)))

/-! _law_draws -/
abbrev s__law_draws : Stmt := topS 20
abbrev N__law_draws : List Str := ["cell", "amount", "rows", "left", "k", "mixed"]
theorem sc__law_draws : FnScope N__law_draws ["cell", "amount"] (defScope s__law_draws) := ⟨rfl, rfl, rfl, by decide +kernel, rfl, by decide +kernel, by decide +kernel⟩
def B__law_draws_1 : En → Option Ou :=
  (sIf (kAnd (kB (eBin dGe (eV 0) (eBin dPow (eK (.int 10)) (eK (.int 18))))) (kB (eBin dGt (eV 3) (eK (.int 0)))))
  (sSeq (sApp 2 (eBin dMod (eCb dInt (aC (eV 3) aN)) (eK (.int 4096))))
  (sSet 3 (eBin dFdiv (eV 3) (eK (.int 4096)))))
  (sSeq (sSet 5 (eBin dMod (eCb dInt (aC (eBin dAdd (eBin dMul (eV 0) (eK (.int 48271))) (eBin dMul (eBin dAdd (eV 4) (eK (.int 1))) (eK (.int 69621)))) aN)) (eK (.int 2147483647))))
  (sSeq (sSet 5 (eBin dMod (eCb dInt (aC (eBin dAdd (eBin dAdd (eBin dMul (eV 5) (eV 5)) (eBin dMul (eV 5) (eK (.int 16807)))) (eBin dMul (eV 4) (eK (.int 7919)))) aN)) (eK (.int 2147483629))))
  (sSeq (sSet 5 (eBin dMod (eCb dInt (aC (eBin dAdd (eBin dAdd (eBin dMul (eV 5) (eV 5)) (eV 0)) (eBin dMul (eK (.int 13)) (eV 4))) aN)) (eK (.int 2147483587))))
  (sApp 2 (eBin dMod (eBin dFdiv (eV 5) (eK (.int 7))) (eK (.int 4096))))))))
def L__law_draws_1 : En → Option Ou := sFor (iRange1 (eV 1)) (gN 4) B__law_draws_1
def T__law_draws : En → Option Ou :=
  (sSeq (sSetO 2 (eLst aN))
  (sSeq (sSet 3 (eC 0))
  (sSeq L__law_draws_1
  (sFrz 2 (sRet (eC 2))))))

/-- one draw: the number, what is left -/
def drawOne (c : Int) (k : Nat) (left : Int) : Int × Int :=
  if c ≥ 10 ^ 18 ∧ left > 0 then (left % 4096, left / 4096) else
    (((((c * 48271 + ((k : Int) + 1) * 69621) % 2147483647) * ((c * 48271 + ((k : Int) + 1) * 69621) % 2147483647) + ((c * 48271 + ((k : Int) + 1) * 69621) % 2147483647) * 16807 + (k : Int) * 7919) % 2147483629 *
      ((((c * 48271 + ((k : Int) + 1) * 69621) % 2147483647) * ((c * 48271 + ((k : Int) + 1) * 69621) % 2147483647) + ((c * 48271 + ((k : Int) + 1) * 69621) % 2147483647) * 16807 + (k : Int) * 7919) % 2147483629) + c + 13 * (k : Int)) % 2147483587 / 7 % 4096, left)
/-- the draws' state behind k of them -/
def drawSt (c : Int) : Nat → List Int × Int
  | 0 => ([], c)
  | k + 1 => ((drawSt c k).1 ++ [(drawOne c k (drawSt c k).2).1], (drawOne c k (drawSt c k).2).2)
def draws (c : Int) (n : Nat) : List Int := (drawSt c n).1
theorem draws_length (c : Int) : ∀ n, (draws c n).length = n
  | 0 => rfl
  | n + 1 => by
    show ((drawSt c n).1 ++ [_]).length = n + 1
    rw [List.length_append, List.length_singleton]
    exact congrArg (· + 1) (draws_length c n)
theorem draws_mem (c : Int) : ∀ n, ∀ x ∈ draws c n, 0 ≤ x ∧ x < 4096
  | 0, x, h => by cases h
  | n + 1, x, h => by
    rcases List.mem_append.mp (show x ∈ (drawSt c n).1 ++ [(drawOne c n (drawSt c n).2).1] from h) with h | h
    · exact draws_mem c n x h
    · rw [List.mem_singleton] at h
      subst h
      unfold drawOne
      split
      · exact ⟨Int.emod_nonneg _ (by decide), Int.emod_lt_of_pos _ (by decide)⟩
      · exact ⟨Int.emod_nonneg _ (by decide), Int.emod_lt_of_pos _ (by decide)⟩
def F__law_draws : List PyData → Option PyData
  | [.int c, .int n] => if 0 ≤ n ∧ n ≤ 10000 then some (.list ((draws c n.toNat).map .int)) else none
  | _ => none
theorem draw_body (c : Int) (m k : Nat) (hk : k ≤ 10000) (a b : Sl) :
    ∃ b', (gN 4 (.int ((0 : Int) + (k : Nat))) [.cl (.int c), .cl (.int m), .ow ((drawSt c k).1.map .int), .cl (.int (drawSt c k).2), a, b]).bind B__law_draws_1 = some (.nx [.cl (.int c), .cl (.int m), .ow ((drawSt c (k + 1)).1.map .int), .cl (.int (drawSt c (k + 1)).2), .cl (.int (k : Nat)), b']) := by
  have hlen : (drawSt c k).1.length = k := draws_length c k
  rw [Int.zero_add]
  unfold B__law_draws_1
  show ∃ b', _ = some (Ou.nx [.cl (.int c), .cl (.int m), .ow (((drawSt c k).1 ++ [(drawOne c k (drawSt c k).2).1]).map .int), .cl (.int (drawOne c k (drawSt c k).2).2), .cl (.int (k : Nat)), b'])
  generalize drawSt c k = st at hlen
  obtain ⟨rs, left⟩ := st
  replace hlen : rs.length = k := hlen
  have h1 : chkL (rs.map PyData.int ++ [.int (left % 4096)]) = some (rs.map PyData.int ++ [.int (left % 4096)]) := chkL_of (by simp; omega)
  unfold drawOne
  by_cases hc : c ≥ 10 ^ 18 ∧ left > 0
  · rw [if_pos hc]
    obtain ⟨g1, g2⟩ := hc
    refine ⟨b, ?_⟩
    simp -implicitDefEqProofs only [z_bool_none, z_bool_bool, z_bool_int, z_bool_str, z_bool_list, z_bool_tuple, z_int_none, z_int_bool, z_int_int, z_int_str, z_int_list, z_int_tuple, z_tuple_none, z_tuple_bool, z_tuple_int, z_tuple_str, z_tuple_list, z_tuple_tuple, z_list_none, z_list_bool, z_list_int, z_list_str, z_list_list, z_list_tuple, z_str_none, z_str_bool, z_str_int, z_str_str, z_str_list, z_str_tuple, z_dict_none, z_dict_bool, z_dict_int, z_dict_str, z_dict_list, z_dict_tuple, q_seq, q_thn, q_thr, q_thb, q_thc, q_thro, q_if, q_ift, q_iff, q_nil, q_ret, q_retN, q_set, q_setO, q_setC, q_setW, q_frz, q_frzo, q_frzc, q_frzu, q_frzt, q_frzt', q_frzr, q_V, q_C, q_ow, q_Vc, q_Vo, q_Cc, q_Oo, q_K, q_N, q_aC, q_aC1, q_tup, q_lst, q_L, q_b, q_bb, q_kB, q_kNot, q_kAnd, q_kOr, q_kit, q_kif, q_kot, q_kof, q_eAnd, q_eOr, q_eit, q_eif, q_eot, q_eof, q_eNot, q_notO, q_eIf, q_eIt, q_eIff, q_bin, q_bin1, q_ch, q_ch1, q_ch2, q_ch3t, q_ch3f, q_addI, q_addS, q_addT, q_addL, q_sub, q_mul, q_mulT, q_imul, q_iadd, q_iaddS, q_fdiv, q_mod, q_pow, q_lsh, q_rsh, q_band, q_lt, q_le, q_gt, q_ge, q_eqI, q_neI, q_isB, q_isN, q_isnB, q_isnN, q_neg, q_un, q_revL, q_revT, q_ixL, q_ixT, q_iOf, q_oN, q_oS, q_sl, q_sl1, q_sl2, q_slT, q_slL, q_call, q_cb, q_cf, q_lenL, q_lenT, q_intI, q_intB, q_abs, q_tupL, q_tupT, q_listL, q_listT, q_sort, q_all, q_max2, q_min2, q_sumL, q_sumT, q_isi, q_isO, q_iseq, q_itL, q_itT, q_revF, q_lrv, q_r1, q_r2, q_r2', q_gN, q_gT, q_gTL, q_sAn, q_sAc, q_app, q_app1, q_app2, q_put, q_put1, q_put2, q_put3, q_aug, q_unp, q_unp1, q_nxO, q_par, q_parO, q_run, q_outr, q_outn, start0, Option.bind_some, Option.bind_none, Option.map_some, Option.map_none, List.map_cons, List.map_nil, List.length_cons, List.length_nil, List.replicate_succ, List.replicate_zero, List.cons_append, List.nil_append, List.append_nil, List.getElem?_cons_zero, List.getElem?_cons_succ, List.getElem?_nil, List.set_cons_zero, List.set_cons_succ, chkL_of, chkT_of, Nat.zero_le, Nat.reduceLeDiff, Nat.reduceSub, Nat.reduceAdd, Nat.sub_self, Bool.not_false, Bool.not_true, pow18, h1, modC_of (show (0 : Int) < 4096 by decide), fdivC_of (show (0 : Int) < 4096 by decide) (by decide), decide_eq_true (show (1000000000000000000 : Int) ≤ c from g1), decide_eq_true (show (0 : Int) < left from g2), List.map_append]
  · rw [if_neg hc]
    have m1 := mod_small (a := c * 48271 + ((k : Int) + 1) * 69621) (b := 2147483647) (by decide) (by decide)
    generalize e1 : (c * 48271 + ((k : Int) + 1) * 69621) % 2147483647 = x1 at m1
    have m2 := mod_small (a := x1 * x1 + x1 * 16807 + (k : Int) * 7919) (b := 2147483629) (by decide) (by decide)
    generalize e2 : (x1 * x1 + x1 * 16807 + (k : Int) * 7919) % 2147483629 = x2 at m2
    have h2 : chkL (rs.map PyData.int ++ [.int ((x2 * x2 + c + 13 * (k : Int)) % 2147483587 / 7 % 4096)]) = some (rs.map PyData.int ++ [.int ((x2 * x2 + c + 13 * (k : Int)) % 2147483587 / 7 % 4096)]) := chkL_of (by simp; omega)
    have ht' : (kif true (kB (eBin dGt (eV 3) (eK (.int 0)))) [.cl (.int c), .cl (.int m), .ow (rs.map .int), .cl (.int left), .cl (.int (k : Nat)), b] (decide (1000000000000000000 ≤ c))) = some false := by
      by_cases g1 : 1000000000000000000 ≤ c
      · rw [decide_eq_true g1]
        have g2 : ¬ 0 < left := fun g2 => hc ⟨g1, g2⟩
        simp -implicitDefEqProofs only [z_bool_none, z_bool_bool, z_bool_int, z_bool_str, z_bool_list, z_bool_tuple, z_int_none, z_int_bool, z_int_int, z_int_str, z_int_list, z_int_tuple, z_tuple_none, z_tuple_bool, z_tuple_int, z_tuple_str, z_tuple_list, z_tuple_tuple, z_list_none, z_list_bool, z_list_int, z_list_str, z_list_list, z_list_tuple, z_str_none, z_str_bool, z_str_int, z_str_str, z_str_list, z_str_tuple, z_dict_none, z_dict_bool, z_dict_int, z_dict_str, z_dict_list, z_dict_tuple, q_seq, q_thn, q_thr, q_thb, q_thc, q_thro, q_if, q_ift, q_iff, q_nil, q_ret, q_retN, q_set, q_setO, q_setC, q_setW, q_frz, q_frzo, q_frzc, q_frzu, q_frzt, q_frzt', q_frzr, q_V, q_C, q_ow, q_Vc, q_Vo, q_Cc, q_Oo, q_K, q_N, q_aC, q_aC1, q_tup, q_lst, q_L, q_b, q_bb, q_kB, q_kNot, q_kAnd, q_kOr, q_kit, q_kif, q_kot, q_kof, q_eAnd, q_eOr, q_eit, q_eif, q_eot, q_eof, q_eNot, q_notO, q_eIf, q_eIt, q_eIff, q_bin, q_bin1, q_ch, q_ch1, q_ch2, q_ch3t, q_ch3f, q_addI, q_addS, q_addT, q_addL, q_sub, q_mul, q_mulT, q_imul, q_iadd, q_iaddS, q_fdiv, q_mod, q_pow, q_lsh, q_rsh, q_band, q_lt, q_le, q_gt, q_ge, q_eqI, q_neI, q_isB, q_isN, q_isnB, q_isnN, q_neg, q_un, q_revL, q_revT, q_ixL, q_ixT, q_iOf, q_oN, q_oS, q_sl, q_sl1, q_sl2, q_slT, q_slL, q_call, q_cb, q_cf, q_lenL, q_lenT, q_intI, q_intB, q_abs, q_tupL, q_tupT, q_listL, q_listT, q_sort, q_all, q_max2, q_min2, q_sumL, q_sumT, q_isi, q_isO, q_iseq, q_itL, q_itT, q_revF, q_lrv, q_r1, q_r2, q_r2', q_gN, q_gT, q_gTL, q_sAn, q_sAc, q_app, q_app1, q_app2, q_put, q_put1, q_put2, q_put3, q_aug, q_unp, q_unp1, q_nxO, q_par, q_parO, q_run, q_outr, q_outn, start0, Option.bind_some, Option.bind_none, Option.map_some, Option.map_none, List.map_cons, List.map_nil, List.length_cons, List.length_nil, List.replicate_succ, List.replicate_zero, List.cons_append, List.nil_append, List.append_nil, List.getElem?_cons_zero, List.getElem?_cons_succ, List.getElem?_nil, List.set_cons_zero, List.set_cons_succ, chkL_of, chkT_of, Nat.zero_le, Nat.reduceLeDiff, Nat.reduceSub, Nat.reduceAdd, Nat.sub_self, Bool.not_false, Bool.not_true, decide_eq_false g2]
      · rw [decide_eq_false g1]
        simp -implicitDefEqProofs only [z_bool_none, z_bool_bool, z_bool_int, z_bool_str, z_bool_list, z_bool_tuple, z_int_none, z_int_bool, z_int_int, z_int_str, z_int_list, z_int_tuple, z_tuple_none, z_tuple_bool, z_tuple_int, z_tuple_str, z_tuple_list, z_tuple_tuple, z_list_none, z_list_bool, z_list_int, z_list_str, z_list_list, z_list_tuple, z_str_none, z_str_bool, z_str_int, z_str_str, z_str_list, z_str_tuple, z_dict_none, z_dict_bool, z_dict_int, z_dict_str, z_dict_list, z_dict_tuple, q_seq, q_thn, q_thr, q_thb, q_thc, q_thro, q_if, q_ift, q_iff, q_nil, q_ret, q_retN, q_set, q_setO, q_setC, q_setW, q_frz, q_frzo, q_frzc, q_frzu, q_frzt, q_frzt', q_frzr, q_V, q_C, q_ow, q_Vc, q_Vo, q_Cc, q_Oo, q_K, q_N, q_aC, q_aC1, q_tup, q_lst, q_L, q_b, q_bb, q_kB, q_kNot, q_kAnd, q_kOr, q_kit, q_kif, q_kot, q_kof, q_eAnd, q_eOr, q_eit, q_eif, q_eot, q_eof, q_eNot, q_notO, q_eIf, q_eIt, q_eIff, q_bin, q_bin1, q_ch, q_ch1, q_ch2, q_ch3t, q_ch3f, q_addI, q_addS, q_addT, q_addL, q_sub, q_mul, q_mulT, q_imul, q_iadd, q_iaddS, q_fdiv, q_mod, q_pow, q_lsh, q_rsh, q_band, q_lt, q_le, q_gt, q_ge, q_eqI, q_neI, q_isB, q_isN, q_isnB, q_isnN, q_neg, q_un, q_revL, q_revT, q_ixL, q_ixT, q_iOf, q_oN, q_oS, q_sl, q_sl1, q_sl2, q_slT, q_slL, q_call, q_cb, q_cf, q_lenL, q_lenT, q_intI, q_intB, q_abs, q_tupL, q_tupT, q_listL, q_listT, q_sort, q_all, q_max2, q_min2, q_sumL, q_sumT, q_isi, q_isO, q_iseq, q_itL, q_itT, q_revF, q_lrv, q_r1, q_r2, q_r2', q_gN, q_gT, q_gTL, q_sAn, q_sAc, q_app, q_app1, q_app2, q_put, q_put1, q_put2, q_put3, q_aug, q_unp, q_unp1, q_nxO, q_par, q_parO, q_run, q_outr, q_outn, start0, Option.bind_some, Option.bind_none, Option.map_some, Option.map_none, List.map_cons, List.map_nil, List.length_cons, List.length_nil, List.replicate_succ, List.replicate_zero, List.cons_append, List.nil_append, List.append_nil, List.getElem?_cons_zero, List.getElem?_cons_succ, List.getElem?_nil, List.set_cons_zero, List.set_cons_succ, chkL_of, chkT_of, Nat.zero_le, Nat.reduceLeDiff, Nat.reduceSub, Nat.reduceAdd, Nat.sub_self, Bool.not_false, Bool.not_true]
    refine ⟨.cl (.int ((x2 * x2 + c + 13 * (k : Int)) % 2147483587)), ?_⟩
    simp -implicitDefEqProofs only [z_bool_none, z_bool_bool, z_bool_int, z_bool_str, z_bool_list, z_bool_tuple, z_int_none, z_int_bool, z_int_int, z_int_str, z_int_list, z_int_tuple, z_tuple_none, z_tuple_bool, z_tuple_int, z_tuple_str, z_tuple_list, z_tuple_tuple, z_list_none, z_list_bool, z_list_int, z_list_str, z_list_list, z_list_tuple, z_str_none, z_str_bool, z_str_int, z_str_str, z_str_list, z_str_tuple, z_dict_none, z_dict_bool, z_dict_int, z_dict_str, z_dict_list, z_dict_tuple, q_seq, q_thn, q_thr, q_thb, q_thc, q_thro, q_if, q_ift, q_iff, q_nil, q_ret, q_retN, q_set, q_setO, q_setC, q_setW, q_frz, q_frzo, q_frzc, q_frzu, q_frzt, q_frzt', q_frzr, q_V, q_C, q_ow, q_Vc, q_Vo, q_Cc, q_Oo, q_K, q_N, q_aC, q_aC1, q_tup, q_lst, q_L, q_b, q_bb, q_kB, q_kNot, q_kAnd, q_kOr, q_kit, q_kif, q_kot, q_kof, q_eAnd, q_eOr, q_eit, q_eif, q_eot, q_eof, q_eNot, q_notO, q_eIf, q_eIt, q_eIff, q_bin, q_bin1, q_ch, q_ch1, q_ch2, q_ch3t, q_ch3f, q_addI, q_addS, q_addT, q_addL, q_sub, q_mul, q_mulT, q_imul, q_iadd, q_iaddS, q_fdiv, q_mod, q_pow, q_lsh, q_rsh, q_band, q_lt, q_le, q_gt, q_ge, q_eqI, q_neI, q_isB, q_isN, q_isnB, q_isnN, q_neg, q_un, q_revL, q_revT, q_ixL, q_ixT, q_iOf, q_oN, q_oS, q_sl, q_sl1, q_sl2, q_slT, q_slL, q_call, q_cb, q_cf, q_lenL, q_lenT, q_intI, q_intB, q_abs, q_tupL, q_tupT, q_listL, q_listT, q_sort, q_all, q_max2, q_min2, q_sumL, q_sumT, q_isi, q_isO, q_iseq, q_itL, q_itT, q_revF, q_lrv, q_r1, q_r2, q_r2', q_gN, q_gT, q_gTL, q_sAn, q_sAc, q_app, q_app1, q_app2, q_put, q_put1, q_put2, q_put3, q_aug, q_unp, q_unp1, q_nxO, q_par, q_parO, q_run, q_outr, q_outn, start0, Option.bind_some, Option.bind_none, Option.map_some, Option.map_none, List.map_cons, List.map_nil, List.length_cons, List.length_nil, List.replicate_succ, List.replicate_zero, List.cons_append, List.nil_append, List.append_nil, List.getElem?_cons_zero, List.getElem?_cons_succ, List.getElem?_nil, List.set_cons_zero, List.set_cons_succ, chkL_of, chkT_of, Nat.zero_le, Nat.reduceLeDiff, Nat.reduceSub, Nat.reduceAdd, Nat.sub_self, Bool.not_false, Bool.not_true, pow18, ht', mulC_r (i := c) (j := 48271) (by decide) (by decide), mulC_r (i := (k : Int) + 1) (j := 69621) (by decide) (by decide), modC_of (show (0 : Int) < 2147483647 by decide), e1, mulC_l (i := x1) (j := x1) m1.1 m1.2,
      mulC_r (i := x1) (j := 16807) (by decide) (by decide), mulC_r (i := (k : Int)) (j := 7919) (by decide) (by decide), modC_of (show (0 : Int) < 2147483629 by decide), e2, mulC_l (i := x2) (j := x2) m2.1 m2.2, mulC_l (i := 13) (j := (k : Int)) (by decide) (by decide),
      modC_of (show (0 : Int) < 2147483587 by decide), fdivC_of (show (0 : Int) < 7 by decide) (by decide), modC_of (show (0 : Int) < 4096 by decide), h2, List.map_append]
theorem fix__law_draws : ∀ ds d, ds.length = 2 → F__law_draws ds = some d → runD N__law_draws.length T__law_draws ds = some d := by
  intro ds d hl h
  clear hl
  unfold F__law_draws at h
  split at h
  · rename_i c n
    split at h
    · rename_i hn
      cases h
      obtain ⟨m, rfl⟩ : ∃ m : Nat, n = (m : Int) := ⟨n.toNat, by omega⟩
      have loop : ∃ a b, L__law_draws_1 [.cl (.int c), .cl (.int m), .ow [], .cl (.int c), .un, .un] = some (.nx [.cl (.int c), .cl (.int m), .ow ((draws c m).map .int), .cl (.int (drawSt c m).2), a, b]) := by
        unfold L__law_draws_1 sFor
        simp -implicitDefEqProofs only [z_bool_none, z_bool_bool, z_bool_int, z_bool_str, z_bool_list, z_bool_tuple, z_int_none, z_int_bool, z_int_int, z_int_str, z_int_list, z_int_tuple, z_tuple_none, z_tuple_bool, z_tuple_int, z_tuple_str, z_tuple_list, z_tuple_tuple, z_list_none, z_list_bool, z_list_int, z_list_str, z_list_list, z_list_tuple, z_str_none, z_str_bool, z_str_int, z_str_str, z_str_list, z_str_tuple, z_dict_none, z_dict_bool, z_dict_int, z_dict_str, z_dict_list, z_dict_tuple, q_seq, q_thn, q_thr, q_thb, q_thc, q_thro, q_if, q_ift, q_iff, q_nil, q_ret, q_retN, q_set, q_setO, q_setC, q_setW, q_frz, q_frzo, q_frzc, q_frzu, q_frzt, q_frzt', q_frzr, q_V, q_C, q_ow, q_Vc, q_Vo, q_Cc, q_Oo, q_K, q_N, q_aC, q_aC1, q_tup, q_lst, q_L, q_b, q_bb, q_kB, q_kNot, q_kAnd, q_kOr, q_kit, q_kif, q_kot, q_kof, q_eAnd, q_eOr, q_eit, q_eif, q_eot, q_eof, q_eNot, q_notO, q_eIf, q_eIt, q_eIff, q_bin, q_bin1, q_ch, q_ch1, q_ch2, q_ch3t, q_ch3f, q_addI, q_addS, q_addT, q_addL, q_sub, q_mul, q_mulT, q_imul, q_iadd, q_iaddS, q_fdiv, q_mod, q_pow, q_lsh, q_rsh, q_band, q_lt, q_le, q_gt, q_ge, q_eqI, q_neI, q_isB, q_isN, q_isnB, q_isnN, q_neg, q_un, q_revL, q_revT, q_ixL, q_ixT, q_iOf, q_oN, q_oS, q_sl, q_sl1, q_sl2, q_slT, q_slL, q_call, q_cb, q_cf, q_lenL, q_lenT, q_intI, q_intB, q_abs, q_tupL, q_tupT, q_listL, q_listT, q_sort, q_all, q_max2, q_min2, q_sumL, q_sumT, q_isi, q_isO, q_iseq, q_itL, q_itT, q_revF, q_lrv, q_r1, q_r2, q_r2', q_gN, q_gT, q_gTL, q_sAn, q_sAc, q_app, q_app1, q_app2, q_put, q_put1, q_put2, q_put3, q_aug, q_unp, q_unp1, q_nxO, q_par, q_parO, q_run, q_outr, q_outn, start0, Option.bind_some, Option.bind_none, Option.map_some, Option.map_none, List.map_cons, List.map_nil, List.length_cons, List.length_nil, List.replicate_succ, List.replicate_zero, List.cons_append, List.nil_append, List.append_nil, List.getElem?_cons_zero, List.getElem?_cons_succ, List.getElem?_nil, List.set_cons_zero, List.set_cons_succ, chkL_of, chkT_of, Nat.zero_le, Nat.reduceLeDiff, Nat.reduceSub, Nat.reduceAdd, Nat.sub_self, Bool.not_false, Bool.not_true, rngD_of (m := 0) (n := (m : Int)) (by omega) (by omega) (by omega) (by omega), Int.sub_zero, Int.toNat_natCast]
        obtain ⟨E', e, a, b, rfl⟩ := forR_ix (lo := 0) (n := m) (body := fun d E => (gN 4 d E).bind B__law_draws_1) (fun k E => ∃ a b, E = [.cl (.int c), .cl (.int m), .ow ((drawSt c k).1.map .int), .cl (.int (drawSt c k).2), a, b]) (fun k E hk ⟨a, b, e⟩ => by
          subst e
          obtain ⟨b', e⟩ := draw_body c m k (by omega) a b
          exact ⟨_, e, _, _, rfl⟩) (E := [.cl (.int c), .cl (.int m), .ow [], .cl (.int c), .un, .un]) ⟨_, _, rfl⟩
        exact ⟨a, b, e⟩
      obtain ⟨a, b, e⟩ := loop
      unfold T__law_draws
      simp -implicitDefEqProofs only [z_bool_none, z_bool_bool, z_bool_int, z_bool_str, z_bool_list, z_bool_tuple, z_int_none, z_int_bool, z_int_int, z_int_str, z_int_list, z_int_tuple, z_tuple_none, z_tuple_bool, z_tuple_int, z_tuple_str, z_tuple_list, z_tuple_tuple, z_list_none, z_list_bool, z_list_int, z_list_str, z_list_list, z_list_tuple, z_str_none, z_str_bool, z_str_int, z_str_str, z_str_list, z_str_tuple, z_dict_none, z_dict_bool, z_dict_int, z_dict_str, z_dict_list, z_dict_tuple, q_seq, q_thn, q_thr, q_thb, q_thc, q_thro, q_if, q_ift, q_iff, q_nil, q_ret, q_retN, q_set, q_setO, q_setC, q_setW, q_frz, q_frzo, q_frzc, q_frzu, q_frzt, q_frzt', q_frzr, q_V, q_C, q_ow, q_Vc, q_Vo, q_Cc, q_Oo, q_K, q_N, q_aC, q_aC1, q_tup, q_lst, q_L, q_b, q_bb, q_kB, q_kNot, q_kAnd, q_kOr, q_kit, q_kif, q_kot, q_kof, q_eAnd, q_eOr, q_eit, q_eif, q_eot, q_eof, q_eNot, q_notO, q_eIf, q_eIt, q_eIff, q_bin, q_bin1, q_ch, q_ch1, q_ch2, q_ch3t, q_ch3f, q_addI, q_addS, q_addT, q_addL, q_sub, q_mul, q_mulT, q_imul, q_iadd, q_iaddS, q_fdiv, q_mod, q_pow, q_lsh, q_rsh, q_band, q_lt, q_le, q_gt, q_ge, q_eqI, q_neI, q_isB, q_isN, q_isnB, q_isnN, q_neg, q_un, q_revL, q_revT, q_ixL, q_ixT, q_iOf, q_oN, q_oS, q_sl, q_sl1, q_sl2, q_slT, q_slL, q_call, q_cb, q_cf, q_lenL, q_lenT, q_intI, q_intB, q_abs, q_tupL, q_tupT, q_listL, q_listT, q_sort, q_all, q_max2, q_min2, q_sumL, q_sumT, q_isi, q_isO, q_iseq, q_itL, q_itT, q_revF, q_lrv, q_r1, q_r2, q_r2', q_gN, q_gT, q_gTL, q_sAn, q_sAc, q_app, q_app1, q_app2, q_put, q_put1, q_put2, q_put3, q_aug, q_unp, q_unp1, q_nxO, q_par, q_parO, q_run, q_outr, q_outn, start0, Option.bind_some, Option.bind_none, Option.map_some, Option.map_none, List.map_cons, List.map_nil, List.length_cons, List.length_nil, List.replicate_succ, List.replicate_zero, List.cons_append, List.nil_append, List.append_nil, List.getElem?_cons_zero, List.getElem?_cons_succ, List.getElem?_nil, List.set_cons_zero, List.set_cons_succ, chkL_of, chkT_of, Nat.zero_le, Nat.reduceLeDiff, Nat.reduceSub, Nat.reduceAdd, Nat.sub_self, Bool.not_false, Bool.not_true, e, Int.toNat_natCast]
    · cases h
  · cases h
theorem draws_eq (c : Int) {n : Int} (h : 0 ≤ n) (h' : n ≤ 10000) : F__law_draws [.int c, .int n] = some (.list ((draws c n.toNat).map .int)) := if_pos ⟨h, h'⟩
theorem draws_ne (c : Int) {n : Nat} (h : 0 < n) : draws c n ≠ [] := fun e => by
  have := draws_length c n
  rw [e] at this
  exact Nat.ne_of_lt h this
theorem draws_pack (c : Int) {n : Int} (h : 0 < n) (h' : n ≤ 10000) : ∃ rs : List Int, F__law_draws [.int c, .int n] = some (.list (rs.map .int)) ∧ rs ≠ [] ∧ (rs.length : Int) = n ∧ ∀ x ∈ rs, 0 ≤ x ∧ x < 4096 :=
  ⟨draws c n.toNat, draws_eq c (by omega) h', draws_ne c (by omega), by rw [draws_length]; omega, draws_mem c n.toNat⟩

theorem ok__law_draws {f : Addr} {fd : FuncData} {k : Nat} (B : Bt mg) (D : Fun K "_law_draws" "_law_draws" s__law_draws f fd) :
    FnOk P w K mg base CX0 (k + 1) f fd ["cell", "amount"] (spD K ["cell", "amount"].length (runD N__law_draws.length T__law_draws)) := by
  have nd := sc__law_draws.nd
  refine fnD D sc__law_draws fun cdv A outer s H E hr => ?_
  exact (dss_cons (ds_setO 2 nd (dlst da_nil))
  (dss_cons (ds_set 3 nd (dc 0))
  (dss_cons (ds_for PassesOwn.never rfl (di_range1 B.range (dv 1)) (dg_name 4 nd)
  (dss_one (ds_if (DW.t (dw_and (dt_cmp o_ge (dv 0) (de_bin o_pow dint.s dint.s).s) (dw_and1 (dt_cmp o_gt (dv 3) dint.s))))
  (dss_cons (ds_app 2 (de_bin o_mod (de_ct c_int B.int (das_cons (dv 3) das_nil)).s dint.s))
  (dss_one (ds_set 3 nd (de_bin o_fdiv (dv 3) dint.s))))
  (dss_cons (ds_set 5 nd (de_bin o_mod (de_ct c_int B.int (das_cons (de_bin o_add (de_bin o_mul (dv 0) dint.s).s (de_bin o_mul (de_bin o_add (dv 4) dint.s).s dint.s).s).s das_nil)).s dint.s))
  (dss_cons (ds_set 5 nd (de_bin o_mod (de_ct c_int B.int (das_cons (de_bin o_add (de_bin o_add (de_bin o_mul (dv 5) (dv 5)).s (de_bin o_mul (dv 5) dint.s).s).s (de_bin o_mul (dv 4) dint.s).s).s das_nil)).s dint.s))
  (dss_cons (ds_set 5 nd (de_bin o_mod (de_ct c_int B.int (das_cons (de_bin o_add (de_bin o_add (de_bin o_mul (dv 5) (dv 5)).s (dv 0)).s (de_bin o_mul dint.s (dv 4)).s).s das_nil)).s dint.s))
  (dss_one (ds_app 2 (de_bin o_mod (de_bin o_fdiv (dv 5) dint.s).s dint.s)))))))))
  (dss_one (ds_frz 2 (ds_ret (dc 2)))))))

/-! _law_is_bool -/
abbrev s__law_is_bool : Stmt := topS 21
abbrev N__law_is_bool : List Str := ["x", "due"]
theorem sc__law_is_bool : FnScope N__law_is_bool ["x", "due"] (defScope s__law_is_bool) := ⟨rfl, rfl, rfl, by decide +kernel, rfl, by decide +kernel, by decide +kernel⟩
def T__law_is_bool : En → Option Ou :=
  (sSeq (sIf (kB (eV 1))
  (sRet (eBin dIs (eV 0) (eK (.bool true))))
  sNil)
  (sRet (eBin dIs (eV 0) (eK (.bool false)))))

def F__law_is_bool : List PyData → Option PyData := runD N__law_is_bool.length T__law_is_bool
theorem fix__law_is_bool : ∀ ds d, ds.length = 2 → F__law_is_bool ds = some d → runD N__law_is_bool.length T__law_is_bool ds = some d := fun _ _ _ h => h

theorem isBool_eq (x y : Bool) : F__law_is_bool [.bool x, .bool y] = some (.bool (x == y)) := by
  unfold F__law_is_bool T__law_is_bool
  cases x <;> cases y <;> simp -implicitDefEqProofs only [z_bool_none, z_bool_bool, z_bool_int, z_bool_str, z_bool_list, z_bool_tuple, z_int_none, z_int_bool, z_int_int, z_int_str, z_int_list, z_int_tuple, z_tuple_none, z_tuple_bool, z_tuple_int, z_tuple_str, z_tuple_list, z_tuple_tuple, z_list_none, z_list_bool, z_list_int, z_list_str, z_list_list, z_list_tuple, z_str_none, z_str_bool, z_str_int, z_str_str, z_str_list, z_str_tuple, z_dict_none, z_dict_bool, z_dict_int, z_dict_str, z_dict_list, z_dict_tuple, q_seq, q_thn, q_thr, q_thb, q_thc, q_thro, q_if, q_ift, q_iff, q_nil, q_ret, q_retN, q_set, q_setO, q_setC, q_setW, q_frz, q_frzo, q_frzc, q_frzu, q_frzt, q_frzt', q_frzr, q_V, q_C, q_ow, q_Vc, q_Vo, q_Cc, q_Oo, q_K, q_N, q_aC, q_aC1, q_tup, q_lst, q_L, q_b, q_bb, q_kB, q_kNot, q_kAnd, q_kOr, q_kit, q_kif, q_kot, q_kof, q_eAnd, q_eOr, q_eit, q_eif, q_eot, q_eof, q_eNot, q_notO, q_eIf, q_eIt, q_eIff, q_bin, q_bin1, q_ch, q_ch1, q_ch2, q_ch3t, q_ch3f, q_addI, q_addS, q_addT, q_addL, q_sub, q_mul, q_mulT, q_imul, q_iadd, q_iaddS, q_fdiv, q_mod, q_pow, q_lsh, q_rsh, q_band, q_lt, q_le, q_gt, q_ge, q_eqI, q_neI, q_isB, q_isN, q_isnB, q_isnN, q_neg, q_un, q_revL, q_revT, q_ixL, q_ixT, q_iOf, q_oN, q_oS, q_sl, q_sl1, q_sl2, q_slT, q_slL, q_call, q_cb, q_cf, q_lenL, q_lenT, q_intI, q_intB, q_abs, q_tupL, q_tupT, q_listL, q_listT, q_sort, q_all, q_max2, q_min2, q_sumL, q_sumT, q_isi, q_isO, q_iseq, q_itL, q_itT, q_revF, q_lrv, q_r1, q_r2, q_r2', q_gN, q_gT, q_gTL, q_sAn, q_sAc, q_app, q_app1, q_app2, q_put, q_put1, q_put2, q_put3, q_aug, q_unp, q_unp1, q_nxO, q_par, q_parO, q_run, q_outr, q_outn, start0, Option.bind_some, Option.bind_none, Option.map_some, Option.map_none, List.map_cons, List.map_nil, List.length_cons, List.length_nil, List.replicate_succ, List.replicate_zero, List.cons_append, List.nil_append, List.append_nil, List.getElem?_cons_zero, List.getElem?_cons_succ, List.getElem?_nil, List.set_cons_zero, List.set_cons_succ, chkL_of, chkT_of, Nat.zero_le, Nat.reduceLeDiff, Nat.reduceSub, Nat.reduceAdd, Nat.sub_self, Bool.not_false, Bool.not_true] <;> rfl

theorem ok__law_is_bool {f : Addr} {fd : FuncData} {k : Nat} (B : Bt mg) (D : Fun K "_law_is_bool" "_law_is_bool" s__law_is_bool f fd) :
    FnOk P w K mg base CX0 (k + 1) f fd ["x", "due"] (spD K ["x", "due"].length (runD N__law_is_bool.length T__law_is_bool)) := by
  have nd := sc__law_is_bool.nd
  refine fnD D sc__law_is_bool fun cdv A outer s H E hr => ?_
  exact (dss_cons (ds_if (dt_val (dv 1))
  (dss_one (ds_ret (de_cmp o_is (dv 0) dbool.s)))
  dss_nil)
  (dss_one (ds_ret (de_cmp o_is (dv 0) dbool.s))))

/-! _law_row -/
abbrev s__law_row : Stmt := topS 22
abbrev N__law_row : List Str := ["draws", "at", "n", "wide", "values", "k"]
theorem sc__law_row : FnScope N__law_row ["draws", "at", "n", "wide"] (defScope s__law_row) := ⟨rfl, rfl, rfl, by decide +kernel, rfl, by decide +kernel, by decide +kernel⟩
def Q__law_row_1 : En → Option (List PyData) := eLc (iRange1 (eV 2)) [5] (gN 5) (fun _ => some true) (eBin dMod (eCb dInt (aC (eBin dIx (eV 0) (eBin dMod (eBin dAdd (eV 1) (eV 5)) (eCb dLen (aC (eV 0) aN)))) aN)) (eV 3))
def T__law_row : En → Option Ou :=
  (sSeq (sSet 4 (eL (eCf dSortI (aC (eL Q__law_row_1) aN))))
  (sRet (eCb dTup (aC (eUn dRev (eV 4)) aN))))

/-- a falling row of n drawn numbers below wide -/
def rowI (rs : List Int) (a : Int) (n : Nat) (wide : Int) : List Int := (sortI ((List.range n).map fun (k : Nat) => drw rs (a + (k : Int)) % wide)).reverse
theorem rowI_length (rs : List Int) (a : Int) (n : Nat) (wide : Int) : (rowI rs a n wide).length = n := by
  unfold rowI
  rw [List.length_reverse, sortI_length, List.length_map, List.length_range]
theorem rowI_fall (rs : List Int) (a : Int) (n : Nat) (wide : Int) : (rowI rs a n wide).Pairwise (· ≥ ·) := by
  unfold rowI
  rw [List.pairwise_reverse]
  exact sortI_sorted _
theorem rowI_mem {rs : List Int} {a : Int} {n : Nat} {wide x : Int} (hw : 0 < wide) (h : x ∈ rowI rs a n wide) : 0 ≤ x ∧ x < wide := by
  unfold rowI at h
  rw [List.mem_reverse, (sortI_perm _).mem_iff, List.mem_map] at h
  obtain ⟨k, _, rfl⟩ := h
  exact ⟨Int.emod_nonneg _ (by omega), Int.emod_lt_of_pos _ hw⟩
def F__law_row : List PyData → Option PyData
  | [.list ds, .int a, .int n, .int wide] => (iL ds).bind fun rs => if rs ≠ [] ∧ rs.length ≤ 100000 ∧ 0 ≤ n ∧ n ≤ 100000 ∧ 0 < wide then some (.tuple ((rowI rs a n.toNat wide).map .int)) else none
  | _ => none
theorem fix__law_row : ∀ ds d, ds.length = 4 → F__law_row ds = some d → runD N__law_row.length T__law_row ds = some d := by
  intro ds d hl h
  clear hl
  unfold F__law_row at h
  split at h
  · rename_i ws a n wide
    cases e : iL ws with
    | none => rw [e] at h; cases h
    | some rs =>
      rw [e] at h
      obtain rfl := iL_some e
      replace h : (if rs ≠ [] ∧ rs.length ≤ 100000 ∧ 0 ≤ n ∧ n ≤ 100000 ∧ 0 < wide then some (PyData.tuple ((rowI rs a n.toNat wide).map .int)) else none) = some d := h
      split at h
      · rename_i hc
        obtain ⟨h1, h2, h3, h4, h5⟩ := hc
        cases h
        have hl : (0 : Int) < rs.length := by
          have := List.length_pos_iff.mpr h1
          omega
        have q : Q__law_row_1 [.cl (.list (rs.map .int)), .cl (.int a), .cl (.int n), .cl (.int wide), .un, .un] = some ((List.range n.toNat).map fun (k : Nat) => PyData.int (drw rs (a + (k : Int)) % wide)) := by
          unfold Q__law_row_1 eLc
          simp -implicitDefEqProofs only [z_bool_none, z_bool_bool, z_bool_int, z_bool_str, z_bool_list, z_bool_tuple, z_int_none, z_int_bool, z_int_int, z_int_str, z_int_list, z_int_tuple, z_tuple_none, z_tuple_bool, z_tuple_int, z_tuple_str, z_tuple_list, z_tuple_tuple, z_list_none, z_list_bool, z_list_int, z_list_str, z_list_list, z_list_tuple, z_str_none, z_str_bool, z_str_int, z_str_str, z_str_list, z_str_tuple, z_dict_none, z_dict_bool, z_dict_int, z_dict_str, z_dict_list, z_dict_tuple, q_seq, q_thn, q_thr, q_thb, q_thc, q_thro, q_if, q_ift, q_iff, q_nil, q_ret, q_retN, q_set, q_setO, q_setC, q_setW, q_frz, q_frzo, q_frzc, q_frzu, q_frzt, q_frzt', q_frzr, q_V, q_C, q_ow, q_Vc, q_Vo, q_Cc, q_Oo, q_K, q_N, q_aC, q_aC1, q_tup, q_lst, q_L, q_b, q_bb, q_kB, q_kNot, q_kAnd, q_kOr, q_kit, q_kif, q_kot, q_kof, q_eAnd, q_eOr, q_eit, q_eif, q_eot, q_eof, q_eNot, q_notO, q_eIf, q_eIt, q_eIff, q_bin, q_bin1, q_ch, q_ch1, q_ch2, q_ch3t, q_ch3f, q_addI, q_addS, q_addT, q_addL, q_sub, q_mul, q_mulT, q_imul, q_iadd, q_iaddS, q_fdiv, q_mod, q_pow, q_lsh, q_rsh, q_band, q_lt, q_le, q_gt, q_ge, q_eqI, q_neI, q_isB, q_isN, q_isnB, q_isnN, q_neg, q_un, q_revL, q_revT, q_ixL, q_ixT, q_iOf, q_oN, q_oS, q_sl, q_sl1, q_sl2, q_slT, q_slL, q_call, q_cb, q_cf, q_lenL, q_lenT, q_intI, q_intB, q_abs, q_tupL, q_tupT, q_listL, q_listT, q_sort, q_all, q_max2, q_min2, q_sumL, q_sumT, q_isi, q_isO, q_iseq, q_itL, q_itT, q_revF, q_lrv, q_r1, q_r2, q_r2', q_gN, q_gT, q_gTL, q_sAn, q_sAc, q_app, q_app1, q_app2, q_put, q_put1, q_put2, q_put3, q_aug, q_unp, q_unp1, q_nxO, q_par, q_parO, q_run, q_outr, q_outn, start0, Option.bind_some, Option.bind_none, Option.map_some, Option.map_none, List.map_cons, List.map_nil, List.length_cons, List.length_nil, List.replicate_succ, List.replicate_zero, List.cons_append, List.nil_append, List.append_nil, List.getElem?_cons_zero, List.getElem?_cons_succ, List.getElem?_nil, List.set_cons_zero, List.set_cons_succ, chkL_of, chkT_of, Nat.zero_le, Nat.reduceLeDiff, Nat.reduceSub, Nat.reduceAdd, Nat.sub_self, Bool.not_false, Bool.not_true, rngD_of (m := 0) (n := n) (by omega) (by omega) (by omega) (by omega), Int.sub_zero]
          rw [chkL_of (by rw [rangeD_length]; omega), Option.bind_some]
          unfold rangeD
          refine lcD_map (List.range n.toNat) fun k hk => ?_
          unfold lcT
          rw [Int.zero_add]
          simp only [wipeE, List.set_cons_zero, List.set_cons_succ]
          simp -implicitDefEqProofs only [z_bool_none, z_bool_bool, z_bool_int, z_bool_str, z_bool_list, z_bool_tuple, z_int_none, z_int_bool, z_int_int, z_int_str, z_int_list, z_int_tuple, z_tuple_none, z_tuple_bool, z_tuple_int, z_tuple_str, z_tuple_list, z_tuple_tuple, z_list_none, z_list_bool, z_list_int, z_list_str, z_list_list, z_list_tuple, z_str_none, z_str_bool, z_str_int, z_str_str, z_str_list, z_str_tuple, z_dict_none, z_dict_bool, z_dict_int, z_dict_str, z_dict_list, z_dict_tuple, q_seq, q_thn, q_thr, q_thb, q_thc, q_thro, q_if, q_ift, q_iff, q_nil, q_ret, q_retN, q_set, q_setO, q_setC, q_setW, q_frz, q_frzo, q_frzc, q_frzu, q_frzt, q_frzt', q_frzr, q_V, q_C, q_ow, q_Vc, q_Vo, q_Cc, q_Oo, q_K, q_N, q_aC, q_aC1, q_tup, q_lst, q_L, q_b, q_bb, q_kB, q_kNot, q_kAnd, q_kOr, q_kit, q_kif, q_kot, q_kof, q_eAnd, q_eOr, q_eit, q_eif, q_eot, q_eof, q_eNot, q_notO, q_eIf, q_eIt, q_eIff, q_bin, q_bin1, q_ch, q_ch1, q_ch2, q_ch3t, q_ch3f, q_addI, q_addS, q_addT, q_addL, q_sub, q_mul, q_mulT, q_imul, q_iadd, q_iaddS, q_fdiv, q_mod, q_pow, q_lsh, q_rsh, q_band, q_lt, q_le, q_gt, q_ge, q_eqI, q_neI, q_isB, q_isN, q_isnB, q_isnN, q_neg, q_un, q_revL, q_revT, q_ixL, q_ixT, q_iOf, q_oN, q_oS, q_sl, q_sl1, q_sl2, q_slT, q_slL, q_call, q_cb, q_cf, q_lenL, q_lenT, q_intI, q_intB, q_abs, q_tupL, q_tupT, q_listL, q_listT, q_sort, q_all, q_max2, q_min2, q_sumL, q_sumT, q_isi, q_isO, q_iseq, q_itL, q_itT, q_revF, q_lrv, q_r1, q_r2, q_r2', q_gN, q_gT, q_gTL, q_sAn, q_sAc, q_app, q_app1, q_app2, q_put, q_put1, q_put2, q_put3, q_aug, q_unp, q_unp1, q_nxO, q_par, q_parO, q_run, q_outr, q_outn, start0, Option.bind_some, Option.bind_none, Option.map_some, Option.map_none, List.map_cons, List.map_nil, List.length_cons, List.length_nil, List.replicate_succ, List.replicate_zero, List.cons_append, List.nil_append, List.append_nil, List.getElem?_cons_zero, List.getElem?_cons_succ, List.getElem?_nil, List.set_cons_zero, List.set_cons_succ, chkL_of, chkT_of, Nat.zero_le, Nat.reduceLeDiff, Nat.reduceSub, Nat.reduceAdd, Nat.sub_self, Bool.not_false, Bool.not_true, List.length_map, modC_of hl, atI_drw h1, modC_of h5]
          rfl
        unfold T__law_row
        have e1 : ((List.range n.toNat).map fun (k : Nat) => PyData.int (drw rs (a + (k : Int)) % wide)) = ((List.range n.toNat).map fun (k : Nat) => drw rs (a + (k : Int)) % wide).map .int := by
          rw [List.map_map]
          rfl
        rw [e1] at q
        simp -implicitDefEqProofs only [z_bool_none, z_bool_bool, z_bool_int, z_bool_str, z_bool_list, z_bool_tuple, z_int_none, z_int_bool, z_int_int, z_int_str, z_int_list, z_int_tuple, z_tuple_none, z_tuple_bool, z_tuple_int, z_tuple_str, z_tuple_list, z_tuple_tuple, z_list_none, z_list_bool, z_list_int, z_list_str, z_list_list, z_list_tuple, z_str_none, z_str_bool, z_str_int, z_str_str, z_str_list, z_str_tuple, z_dict_none, z_dict_bool, z_dict_int, z_dict_str, z_dict_list, z_dict_tuple, q_seq, q_thn, q_thr, q_thb, q_thc, q_thro, q_if, q_ift, q_iff, q_nil, q_ret, q_retN, q_set, q_setO, q_setC, q_setW, q_frz, q_frzo, q_frzc, q_frzu, q_frzt, q_frzt', q_frzr, q_V, q_C, q_ow, q_Vc, q_Vo, q_Cc, q_Oo, q_K, q_N, q_aC, q_aC1, q_tup, q_lst, q_L, q_b, q_bb, q_kB, q_kNot, q_kAnd, q_kOr, q_kit, q_kif, q_kot, q_kof, q_eAnd, q_eOr, q_eit, q_eif, q_eot, q_eof, q_eNot, q_notO, q_eIf, q_eIt, q_eIff, q_bin, q_bin1, q_ch, q_ch1, q_ch2, q_ch3t, q_ch3f, q_addI, q_addS, q_addT, q_addL, q_sub, q_mul, q_mulT, q_imul, q_iadd, q_iaddS, q_fdiv, q_mod, q_pow, q_lsh, q_rsh, q_band, q_lt, q_le, q_gt, q_ge, q_eqI, q_neI, q_isB, q_isN, q_isnB, q_isnN, q_neg, q_un, q_revL, q_revT, q_ixL, q_ixT, q_iOf, q_oN, q_oS, q_sl, q_sl1, q_sl2, q_slT, q_slL, q_call, q_cb, q_cf, q_lenL, q_lenT, q_intI, q_intB, q_abs, q_tupL, q_tupT, q_listL, q_listT, q_sort, q_all, q_max2, q_min2, q_sumL, q_sumT, q_isi, q_isO, q_iseq, q_itL, q_itT, q_revF, q_lrv, q_r1, q_r2, q_r2', q_gN, q_gT, q_gTL, q_sAn, q_sAc, q_app, q_app1, q_app2, q_put, q_put1, q_put2, q_put3, q_aug, q_unp, q_unp1, q_nxO, q_par, q_parO, q_run, q_outr, q_outn, start0, Option.bind_some, Option.bind_none, Option.map_some, Option.map_none, List.map_cons, List.map_nil, List.length_cons, List.length_nil, List.replicate_succ, List.replicate_zero, List.cons_append, List.nil_append, List.append_nil, List.getElem?_cons_zero, List.getElem?_cons_succ, List.getElem?_nil, List.set_cons_zero, List.set_cons_succ, chkL_of, chkT_of, Nat.zero_le, Nat.reduceLeDiff, Nat.reduceSub, Nat.reduceAdd, Nat.sub_self, Bool.not_false, Bool.not_true, q, iL_map]
        unfold rowI
        rw [List.map_reverse]
      · cases h
  · cases h
theorem row_eq {rs : List Int} (h : rs ≠ []) (hl : rs.length ≤ 100000) (a : Int) {n wide : Int} (h0 : 0 ≤ n) (h1 : n ≤ 100000) (hw : 0 < wide) : F__law_row [.list (rs.map .int), .int a, .int n, .int wide] = some (.tuple ((rowI rs a n.toNat wide).map .int)) := by
  show (iL (rs.map .int)).bind _ = _
  rw [iL_map]
  exact if_pos ⟨h, hl, h0, h1, hw⟩

theorem ok__law_row {f : Addr} {fd : FuncData} {k : Nat} (B : Bt mg) (D : Fun K "_law_row" "_law_row" s__law_row f fd) :
    FnOk P w K mg base CX0 (k + 1) f fd ["draws", "at", "n", "wide"] (spD K ["draws", "at", "n", "wide"].length (runD N__law_row.length T__law_row)) := by
  have nd := sc__law_row.nd
  refine fnD D sc__law_row fun cdv A outer s H E hr => ?_
  exact (dss_cons (ds_set 4 nd (df_cb c_sortI B.sorted (das_cons (df_lc ([("k", 5)] : List (Str × Nat)) rfl nd (di_range1 B.range (dv 2)) (blkOk_by (N := N__law_row) (sc := (defScope s__law_row)) (scope := mkS [(".0", .local), ("k", .local), ("int", .globalImplicit), ("len", .globalImplicit), ("at", .free), ("draws", .free), ("wide", .free)]) (by decide +kernel)) (dgr_name 5) (fun _ _ _ _ _ => dg_name 5 nd) (fun _ _ _ _ _ => dts_nil) (fun _ _ _ _ _ => (de_bin o_mod (de_ct c_int B.int (das_cons (de_ix (dv 0) (de_bin o_mod (de_bin o_add (dv 1) (dv 5)).s (de_cb c_len B.len (das_cons (dv 0) das_nil)).s).s).s das_nil)).s (dv 3)))).s das_nil)).e)
  (dss_one (ds_ret (de_ct c_tup B.tuple (das_cons (de_rev (dv 4)).s das_nil)))))

/-! _law_some_row -/
abbrev s__law_some_row : Stmt := topS 23
abbrev N__law_some_row : List Str := ["draws", "at", "n", "wide", "shift", "entry"]
theorem sc__law_some_row : FnScope N__law_some_row ["draws", "at", "n", "wide"] (defScope s__law_some_row) := ⟨rfl, rfl, rfl, by decide +kernel, rfl, by decide +kernel, by decide +kernel⟩
def Q__law_some_row_1 : En → Option (List PyData) := eLc (iSeq (eCall F__law_row (aC (eC 0) (aC (eC 1) (aC (eC 2) (aC (eC 3) aN)))))) [5] (gN 5) (fun _ => some true) (eBin dAdd (eV 5) (eV 4))
def T__law_some_row : En → Option Ou :=
  (sSeq (sSet 4 (eBin dIx (eL (eLst (aC (eK (.int 0)) (aC (eK (.int 0)) (aC (eK (.int 1)) (aC (eUn dNeg (eK (.int 2))) (aC (eUn dNeg (eV 3)) (aC (eK (.int 3)) (aC (eUn dNeg (eK (.int 1))) aN))))))))) (eBin dMod (eCb dInt (aC (eBin dIx (eV 0) (eBin dMod (eBin dAdd (eV 1) (eV 2)) (eCb dLen (aC (eV 0) aN)))) aN)) (eK (.int 7)))))
  (sRet (eCb dTup (aC (eL Q__law_some_row_1) aN))))

/-- how far a row is moved -/
def shiftI (rs : List Int) (a : Int) (wide : Int) : Int := ([0, 0, 1, -2, -wide, 3, -1] : List Int).getD (drw rs a % 7).toNat 0
def someRow (rs : List Int) (a : Int) (n : Nat) (wide : Int) : List Int := (rowI rs a n wide).map (· + shiftI rs (a + (n : Int)) wide)
theorem someRow_length (rs : List Int) (a : Int) (n : Nat) (wide : Int) : (someRow rs a n wide).length = n := by
  unfold someRow
  rw [List.length_map, rowI_length]
theorem someRow_fall (rs : List Int) (a : Int) (n : Nat) (wide : Int) : (someRow rs a n wide).Pairwise (· ≥ ·) := by
  unfold someRow
  rw [List.pairwise_map]
  exact (rowI_fall rs a n wide).imp fun h => by omega
theorem shiftI_bd (rs : List Int) (a : Int) {wide : Int} (hw : 0 < wide) : -wide - 2 ≤ shiftI rs a wide ∧ shiftI rs a wide ≤ 3 := by
  unfold shiftI
  have h1 := Int.emod_nonneg (drw rs a) (show (7 : Int) ≠ 0 by decide)
  have h2 := Int.emod_lt_of_pos (drw rs a) (show (0 : Int) < 7 by decide)
  generalize drw rs a % 7 = i at h1 h2
  have : i = 0 ∨ i = 1 ∨ i = 2 ∨ i = 3 ∨ i = 4 ∨ i = 5 ∨ i = 6 := by omega
  rcases this with rfl | rfl | rfl | rfl | rfl | rfl | rfl <;> simp <;> omega
theorem someRow_mem {rs : List Int} {a : Int} {n : Nat} {wide x : Int} (hw : 0 < wide) (h : x ∈ someRow rs a n wide) : -wide - 2 ≤ x ∧ x < wide + 3 := by
  unfold someRow at h
  obtain ⟨y, hy, rfl⟩ := List.mem_map.mp h
  have h1 := rowI_mem hw hy
  have h2 := shiftI_bd rs (a + (n : Int)) hw
  omega
def F__law_some_row : List PyData → Option PyData
  | [.list ds, .int a, .int n, .int wide] => (iL ds).bind fun rs => if rs ≠ [] ∧ rs.length ≤ 100000 ∧ 0 ≤ n ∧ n ≤ 100000 ∧ 0 < wide then some (.tuple ((someRow rs a n.toNat wide).map .int)) else none
  | _ => none
theorem fix__law_some_row : ∀ ds d, ds.length = 4 → F__law_some_row ds = some d → runD N__law_some_row.length T__law_some_row ds = some d := by
  intro ds d hl h
  clear hl
  unfold F__law_some_row at h
  split at h
  · rename_i ws a n wide
    cases e : iL ws with
    | none => rw [e] at h; cases h
    | some rs =>
      rw [e] at h
      obtain rfl := iL_some e
      replace h : (if rs ≠ [] ∧ rs.length ≤ 100000 ∧ 0 ≤ n ∧ n ≤ 100000 ∧ 0 < wide then some (PyData.tuple ((someRow rs a n.toNat wide).map .int)) else none) = some d := h
      split at h
      · rename_i hc
        obtain ⟨h1, h2, h3, h4, h5⟩ := id hc
        cases h
        have hl : (0 : Int) < rs.length := by
          have := List.length_pos_iff.mpr h1
          omega
        have hrow : F__law_row [.list (rs.map .int), .int a, .int n, .int wide] = some (.tuple ((rowI rs a n.toNat wide).map .int)) := by
          show (iL (rs.map .int)).bind _ = _
          rw [iL_map]
          exact if_pos hc
        have hn : (n.toNat : Int) = n := Int.toNat_of_nonneg h3
        have hsh : atI [PyData.int 0, .int 0, .int 1, .int (-2), .int (-wide), .int 3, .int (-1)] (drw rs (a + n) % 7) = some (.int (shiftI rs (a + (n.toNat : Int)) wide)) := by
          rw [hn]
          unfold shiftI
          have g1 := Int.emod_nonneg (drw rs (a + n)) (show (7 : Int) ≠ 0 by decide)
          have g2 := Int.emod_lt_of_pos (drw rs (a + n)) (show (0 : Int) < 7 by decide)
          generalize drw rs (a + n) % 7 = i at g1 g2
          have : i = 0 ∨ i = 1 ∨ i = 2 ∨ i = 3 ∨ i = 4 ∨ i = 5 ∨ i = 6 := by omega
          rcases this with rfl | rfl | rfl | rfl | rfl | rfl | rfl <;> rfl
        generalize hs : shiftI rs (a + (n.toNat : Int)) wide = sh at hsh
        have q : ∀ z, Q__law_some_row_1 [.cl (.list (rs.map .int)), .cl (.int a), .cl (.int n), .cl (.int wide), .cl (.int sh), z] = some ((rowI rs a n.toNat wide).map fun x => PyData.int (x + sh)) := by
          intro z
          unfold Q__law_some_row_1 eLc
          simp -implicitDefEqProofs only [z_bool_none, z_bool_bool, z_bool_int, z_bool_str, z_bool_list, z_bool_tuple, z_int_none, z_int_bool, z_int_int, z_int_str, z_int_list, z_int_tuple, z_tuple_none, z_tuple_bool, z_tuple_int, z_tuple_str, z_tuple_list, z_tuple_tuple, z_list_none, z_list_bool, z_list_int, z_list_str, z_list_list, z_list_tuple, z_str_none, z_str_bool, z_str_int, z_str_str, z_str_list, z_str_tuple, z_dict_none, z_dict_bool, z_dict_int, z_dict_str, z_dict_list, z_dict_tuple, q_seq, q_thn, q_thr, q_thb, q_thc, q_thro, q_if, q_ift, q_iff, q_nil, q_ret, q_retN, q_set, q_setO, q_setC, q_setW, q_frz, q_frzo, q_frzc, q_frzu, q_frzt, q_frzt', q_frzr, q_V, q_C, q_ow, q_Vc, q_Vo, q_Cc, q_Oo, q_K, q_N, q_aC, q_aC1, q_tup, q_lst, q_L, q_b, q_bb, q_kB, q_kNot, q_kAnd, q_kOr, q_kit, q_kif, q_kot, q_kof, q_eAnd, q_eOr, q_eit, q_eif, q_eot, q_eof, q_eNot, q_notO, q_eIf, q_eIt, q_eIff, q_bin, q_bin1, q_ch, q_ch1, q_ch2, q_ch3t, q_ch3f, q_addI, q_addS, q_addT, q_addL, q_sub, q_mul, q_mulT, q_imul, q_iadd, q_iaddS, q_fdiv, q_mod, q_pow, q_lsh, q_rsh, q_band, q_lt, q_le, q_gt, q_ge, q_eqI, q_neI, q_isB, q_isN, q_isnB, q_isnN, q_neg, q_un, q_revL, q_revT, q_ixL, q_ixT, q_iOf, q_oN, q_oS, q_sl, q_sl1, q_sl2, q_slT, q_slL, q_call, q_cb, q_cf, q_lenL, q_lenT, q_intI, q_intB, q_abs, q_tupL, q_tupT, q_listL, q_listT, q_sort, q_all, q_max2, q_min2, q_sumL, q_sumT, q_isi, q_isO, q_iseq, q_itL, q_itT, q_revF, q_lrv, q_r1, q_r2, q_r2', q_gN, q_gT, q_gTL, q_sAn, q_sAc, q_app, q_app1, q_app2, q_put, q_put1, q_put2, q_put3, q_aug, q_unp, q_unp1, q_nxO, q_par, q_parO, q_run, q_outr, q_outn, start0, Option.bind_some, Option.bind_none, Option.map_some, Option.map_none, List.map_cons, List.map_nil, List.length_cons, List.length_nil, List.replicate_succ, List.replicate_zero, List.cons_append, List.nil_append, List.append_nil, List.getElem?_cons_zero, List.getElem?_cons_succ, List.getElem?_nil, List.set_cons_zero, List.set_cons_succ, chkL_of, chkT_of, Nat.zero_le, Nat.reduceLeDiff, Nat.reduceSub, Nat.reduceAdd, Nat.sub_self, Bool.not_false, Bool.not_true, hrow]
          rw [chkL_of (by rw [List.length_map, rowI_length]; omega), Option.bind_some]
          refine lcD_map (rowI rs a n.toNat wide) fun k hk => ?_
          unfold lcT
          simp only [wipeE, List.set_cons_zero, List.set_cons_succ]
          simp -implicitDefEqProofs only [z_bool_none, z_bool_bool, z_bool_int, z_bool_str, z_bool_list, z_bool_tuple, z_int_none, z_int_bool, z_int_int, z_int_str, z_int_list, z_int_tuple, z_tuple_none, z_tuple_bool, z_tuple_int, z_tuple_str, z_tuple_list, z_tuple_tuple, z_list_none, z_list_bool, z_list_int, z_list_str, z_list_list, z_list_tuple, z_str_none, z_str_bool, z_str_int, z_str_str, z_str_list, z_str_tuple, z_dict_none, z_dict_bool, z_dict_int, z_dict_str, z_dict_list, z_dict_tuple, q_seq, q_thn, q_thr, q_thb, q_thc, q_thro, q_if, q_ift, q_iff, q_nil, q_ret, q_retN, q_set, q_setO, q_setC, q_setW, q_frz, q_frzo, q_frzc, q_frzu, q_frzt, q_frzt', q_frzr, q_V, q_C, q_ow, q_Vc, q_Vo, q_Cc, q_Oo, q_K, q_N, q_aC, q_aC1, q_tup, q_lst, q_L, q_b, q_bb, q_kB, q_kNot, q_kAnd, q_kOr, q_kit, q_kif, q_kot, q_kof, q_eAnd, q_eOr, q_eit, q_eif, q_eot, q_eof, q_eNot, q_notO, q_eIf, q_eIt, q_eIff, q_bin, q_bin1, q_ch, q_ch1, q_ch2, q_ch3t, q_ch3f, q_addI, q_addS, q_addT, q_addL, q_sub, q_mul, q_mulT, q_imul, q_iadd, q_iaddS, q_fdiv, q_mod, q_pow, q_lsh, q_rsh, q_band, q_lt, q_le, q_gt, q_ge, q_eqI, q_neI, q_isB, q_isN, q_isnB, q_isnN, q_neg, q_un, q_revL, q_revT, q_ixL, q_ixT, q_iOf, q_oN, q_oS, q_sl, q_sl1, q_sl2, q_slT, q_slL, q_call, q_cb, q_cf, q_lenL, q_lenT, q_intI, q_intB, q_abs, q_tupL, q_tupT, q_listL, q_listT, q_sort, q_all, q_max2, q_min2, q_sumL, q_sumT, q_isi, q_isO, q_iseq, q_itL, q_itT, q_revF, q_lrv, q_r1, q_r2, q_r2', q_gN, q_gT, q_gTL, q_sAn, q_sAc, q_app, q_app1, q_app2, q_put, q_put1, q_put2, q_put3, q_aug, q_unp, q_unp1, q_nxO, q_par, q_parO, q_run, q_outr, q_outn, start0, Option.bind_some, Option.bind_none, Option.map_some, Option.map_none, List.map_cons, List.map_nil, List.length_cons, List.length_nil, List.replicate_succ, List.replicate_zero, List.cons_append, List.nil_append, List.append_nil, List.getElem?_cons_zero, List.getElem?_cons_succ, List.getElem?_nil, List.set_cons_zero, List.set_cons_succ, chkL_of, chkT_of, Nat.zero_le, Nat.reduceLeDiff, Nat.reduceSub, Nat.reduceAdd, Nat.sub_self, Bool.not_false, Bool.not_true]
          rfl
        unfold T__law_some_row
        simp -implicitDefEqProofs only [z_bool_none, z_bool_bool, z_bool_int, z_bool_str, z_bool_list, z_bool_tuple, z_int_none, z_int_bool, z_int_int, z_int_str, z_int_list, z_int_tuple, z_tuple_none, z_tuple_bool, z_tuple_int, z_tuple_str, z_tuple_list, z_tuple_tuple, z_list_none, z_list_bool, z_list_int, z_list_str, z_list_list, z_list_tuple, z_str_none, z_str_bool, z_str_int, z_str_str, z_str_list, z_str_tuple, z_dict_none, z_dict_bool, z_dict_int, z_dict_str, z_dict_list, z_dict_tuple, q_seq, q_thn, q_thr, q_thb, q_thc, q_thro, q_if, q_ift, q_iff, q_nil, q_ret, q_retN, q_set, q_setO, q_setC, q_setW, q_frz, q_frzo, q_frzc, q_frzu, q_frzt, q_frzt', q_frzr, q_V, q_C, q_ow, q_Vc, q_Vo, q_Cc, q_Oo, q_K, q_N, q_aC, q_aC1, q_tup, q_lst, q_L, q_b, q_bb, q_kB, q_kNot, q_kAnd, q_kOr, q_kit, q_kif, q_kot, q_kof, q_eAnd, q_eOr, q_eit, q_eif, q_eot, q_eof, q_eNot, q_notO, q_eIf, q_eIt, q_eIff, q_bin, q_bin1, q_ch, q_ch1, q_ch2, q_ch3t, q_ch3f, q_addI, q_addS, q_addT, q_addL, q_sub, q_mul, q_mulT, q_imul, q_iadd, q_iaddS, q_fdiv, q_mod, q_pow, q_lsh, q_rsh, q_band, q_lt, q_le, q_gt, q_ge, q_eqI, q_neI, q_isB, q_isN, q_isnB, q_isnN, q_neg, q_un, q_revL, q_revT, q_ixL, q_ixT, q_iOf, q_oN, q_oS, q_sl, q_sl1, q_sl2, q_slT, q_slL, q_call, q_cb, q_cf, q_lenL, q_lenT, q_intI, q_intB, q_abs, q_tupL, q_tupT, q_listL, q_listT, q_sort, q_all, q_max2, q_min2, q_sumL, q_sumT, q_isi, q_isO, q_iseq, q_itL, q_itT, q_revF, q_lrv, q_r1, q_r2, q_r2', q_gN, q_gT, q_gTL, q_sAn, q_sAc, q_app, q_app1, q_app2, q_put, q_put1, q_put2, q_put3, q_aug, q_unp, q_unp1, q_nxO, q_par, q_parO, q_run, q_outr, q_outn, start0, Option.bind_some, Option.bind_none, Option.map_some, Option.map_none, List.map_cons, List.map_nil, List.length_cons, List.length_nil, List.replicate_succ, List.replicate_zero, List.cons_append, List.nil_append, List.append_nil, List.getElem?_cons_zero, List.getElem?_cons_succ, List.getElem?_nil, List.set_cons_zero, List.set_cons_succ, chkL_of, chkT_of, Nat.zero_le, Nat.reduceLeDiff, Nat.reduceSub, Nat.reduceAdd, Nat.sub_self, Bool.not_false, Bool.not_true, List.length_map, modC_of hl, atI_drw h1, modC_of (show (0 : Int) < 7 by decide), hsh, q]
        unfold someRow
        rw [List.map_map, hs]
        rfl
      · cases h
  · cases h
theorem someRow_eq {rs : List Int} (h : rs ≠ []) (hl : rs.length ≤ 100000) (a : Int) {n wide : Int} (h0 : 0 ≤ n) (h1 : n ≤ 100000) (hw : 0 < wide) : F__law_some_row [.list (rs.map .int), .int a, .int n, .int wide] = some (.tuple ((someRow rs a n.toNat wide).map .int)) := by
  show (iL (rs.map .int)).bind _ = _
  rw [iL_map]
  exact if_pos ⟨h, hl, h0, h1, hw⟩

theorem ok__law_some_row {f : Addr} {fd : FuncData} {k : Nat} (B : Bt mg) (D : Fun K "_law_some_row" "_law_some_row" s__law_some_row f fd) (C__law_row : Cl P w K mg base k "_law_row" 4 F__law_row) :
    FnOk P w K mg base CX0 (k + 1) f fd ["draws", "at", "n", "wide"] (spD K ["draws", "at", "n", "wide"].length (runD N__law_some_row.length T__law_some_row)) := by
  have nd := sc__law_some_row.nd
  refine fnD D sc__law_some_row fun cdv A outer s H E hr => ?_
  exact (dss_cons (ds_set 4 nd (de_ix (dlst (da_cons dint (da_cons dint (da_cons dint (da_cons (de_neg dint.s) (da_cons (de_neg (dv 3)) (da_cons dint (da_cons (de_neg dint.s) da_nil)))))))).s (de_bin o_mod (de_ct c_int B.int (das_cons (de_ix (dv 0) (de_bin o_mod (de_bin o_add (dv 1) (dv 2)).s (de_cb c_len B.len (das_cons (dv 0) das_nil)).s).s).s das_nil)).s dint.s).s))
  (dss_one (ds_ret (de_ct c_tup B.tuple (das_cons (df_lc ([("entry", 5)] : List (Str × Nat)) rfl nd (di_seq (de_call (C__law_row.fc hr (Nat.le_refl _)) (da_cons (dc 0) (da_cons (dc 1) (da_cons (dc 2) (da_cons (dc 3) da_nil)))))) (blkOk_by (N := N__law_some_row) (sc := (defScope s__law_some_row)) (scope := mkS [(".0", .local), ("entry", .local), ("shift", .free)]) (by decide +kernel)) (dgr_name 5) (fun _ _ _ _ _ => dg_name 5 nd) (fun _ _ _ _ _ => dts_nil) (fun _ _ _ _ _ => (de_bin o_add (dv 5) (dv 4)))).s das_nil)))))

/-! law -/
abbrev s_law : Stmt := topS 24
abbrev N_law : List Str := ["script", "draws", "n", "a", "rows", "turn", "other", "joined", "row", "k", "one", "two", "three", "i", "j"]
theorem sc_law : FnScope N_law ["script"] (defScope s_law) := ⟨rfl, rfl, rfl, by decide +kernel, rfl, by decide +kernel, by decide +kernel⟩
def B_law_2 : En → Option Ou :=
  (sSeq (sSet 13 (eBin dMod (eBin dIx (eV 1) (eBin dAdd (eBin dAdd (eK (.int 12)) (eBin dMul (eK (.int 4)) (eV 5))) (eV 9))) (eV 2)))
  (sSeq (sSet 14 (eBin dMod (eBin dIx (eV 1) (eBin dAdd (eBin dAdd (eK (.int 20)) (eBin dMul (eK (.int 4)) (eV 5))) (eV 9))) (eV 2)))
  (sSeq (sIf (kB (eBin dGt (eBin dIx (eV 8) (eV 13)) (eBin dAdd (eBin dIx (eV 8) (eV 14)) (eK (.int 1)))))
  (sSeq (sPut 8 (eV 13) (eBin dSub (eBin dIx (eV 8) (eV 13)) (eK (.int 1))))
  (sPut 8 (eV 14) (eBin dAdd (eBin dIx (eV 8) (eV 14)) (eK (.int 1)))))
  sNil)
  (sSetO 8 (eRevL (eL (eCf dSortI (aC (eV 8) aN))))))))
def L_law_2 : En → Option Ou := sFor (iRange1 (eBin dMod (eBin dIx (eV 1) (eBin dAdd (eK (.int 10)) (eV 5))) (eK (.int 4)))) (gN 9) B_law_2
def B_law_1 : En → Option Ou :=
  (sSeq (sSetO 8 (eCf dList (aC (eBin dIx (eV 4) (eUn dNeg (eK (.int 1)))) aN)))
  (sSeq L_law_2
  (sFrz 8 (sApp 4 (eCb dTup (aC (eV 8) aN))))))
def L_law_1 : En → Option Ou := sFor (iRange1 (eK (.int 2))) (gN 5) B_law_1
def T_law : En → Option Ou :=
  (sSeq (sSet 1 (eCall F__law_draws (aC (eCall F__law_cell (aC (eC 0) (aC (eK (.int 0)) aN))) (aC (eK (.int 40)) aN))))
  (sSeq (sSet 2 (eBin dAdd (eK (.int 2)) (eBin dMod (eBin dIx (eV 1) (eK (.int 0))) (eK (.int 4)))))
  (sSeq (sSet 3 (eCall F__law_some_row (aC (eC 1) (aC (eK (.int 1)) (aC (eC 2) (aC (eK (.int 7)) aN))))))
  (sSeq (sSetO 4 (eLst (aC (eC 3) aN)))
  (sSeq L_law_1
  (sSeq (sFrz 4 (sUnp [10, 11, 12] (eC 4)))
  (sSeq (sSet 6 (eCall F__law_some_row (aC (eC 1) (aC (eK (.int 30)) (aC (eC 2) (aC (eK (.int 5)) aN))))))
  (sSeq (sIf (kOr (kB (eBin dIsNot (eCall F_over (aC (eC 10) (aC (eC 11) aN))) (eK (.bool true)))) (kOr (kB (eBin dIsNot (eCall F_over (aC (eC 11) (aC (eC 12) aN))) (eK (.bool true)))) (kB (eBin dIsNot (eCall F_over (aC (eC 10) (aC (eC 12) aN))) (eK (.bool true))))))
  (sRet (eK (.bool false)))
  sNil)
  (sSeq (sIf (kOr (kNot (kB (eCall F__law_is_bool (aC (eCall F_over (aC (eC 12) (aC (eC 10) aN))) (aC (eBin dEq (eV 10) (eV 12)) aN))))) (kB (eBin dIsNot (eCall F_over (aC (eCall F_turned (aC (eC 10) aN)) (aC (eCall F_turned (aC (eC 12) aN)) aN))) (eK (.bool true)))))
  (sRet (eK (.bool false)))
  sNil)
  (sSeq (sIf (kB (eBin dIsNot (eCall F_over (aC (eCall F_plus (aC (eC 10) (aC (eC 6) aN))) (aC (eCall F_plus (aC (eC 12) (aC (eC 6) aN))) aN))) (eK (.bool true))))
  (sRet (eK (.bool false)))
  sNil)
  (sSeq (sSet 7 (eBin dAdd (eBin dIx (eCall F_level_paper (aC (eC 10) (aC (eC 11) aN))) (eK (.int 1))) (eSl (eBin dIx (eCall F_level_paper (aC (eC 11) (aC (eC 12) aN))) (eK (.int 1))) (oS (eK (.int 1))) oN)))
  (sSeq (sIf (kB (eBin dIsNot (eCall F_check_levels (aC (eC 10) (aC (eC 12) (aC (eTup (aC (eK (.str "moves")) (aC (eC 7) aN))) aN)))) (eK (.bool true))))
  (sRet (eK (.bool false)))
  sNil)
  (sRet (eCall F__law_is_bool (aC (eCall F_check_levels (aC (eC 12) (aC (eC 10) (aC (eTup (aC (eK (.str "moves")) (aC (eC 7) aN))) aN)))) (aC (eAnd (eBin dEq (eV 10) (eV 12)) (eBin dEq (eCb dLen (aC (eV 7) aN)) (eK (.int 1)))) aN))))))))))))))))

def F_law : List PyData → Option PyData := runD N_law.length T_law
theorem fix_law : ∀ ds d, ds.length = 1 → F_law ds = some d → runD N_law.length T_law ds = some d := fun _ _ _ h => h

theorem ok_law {f : Addr} {fd : FuncData} {k : Nat} (B : Bt mg) (D : Fun K "law" "law" s_law f fd) (C__law_draws : Cl P w K mg base k "_law_draws" 2 F__law_draws) (C__law_some_row : Cl P w K mg base k "_law_some_row" 4 F__law_some_row) (C__law_is_bool : Cl P w K mg base k "_law_is_bool" 2 F__law_is_bool) (C__law_cell : Cl P w K mg base k "_law_cell" 2 F__law_cell) (C_over : Cl P w K mg base k "over" 2 F_over) (C_check_levels : Cl P w K mg base k "check_levels" 3 F_check_levels) (C_plus : Cl P w K mg base k "plus" 2 F_plus) (C_level_paper : Cl P w K mg base k "level_paper" 2 F_level_paper) (C_turned : Cl P w K mg base k "turned" 1 F_turned) :
    FnOk P w K mg base CX0 (k + 1) f fd ["script"] (spD K ["script"].length (runD N_law.length T_law)) := by
  have nd := sc_law.nd
  refine fnD D sc_law fun cdv A outer s H E hr => ?_
  exact (dss_cons (ds_set 1 nd (de_call (C__law_draws.fc hr (Nat.le_refl _)) (da_cons (de_call (C__law_cell.fc hr (Nat.le_refl _)) (da_cons (dc 0) (da_cons dint da_nil))) (da_cons dint da_nil))))
  (dss_cons (ds_set 2 nd (de_bin o_add dint.s (de_bin o_mod (de_ix (dv 1) dint.s).s dint.s).s))
  (dss_cons (ds_set 3 nd (de_call (C__law_some_row.fc hr (Nat.le_refl _)) (da_cons (dc 1) (da_cons dint (da_cons (dc 2) (da_cons dint da_nil))))))
  (dss_cons (ds_setO 4 nd (dlst (da_cons (dc 3) da_nil)))
  (dss_cons (ds_for PassesOwn.never rfl (di_range1 B.range dint.s) (dg_name 5 nd)
  (dss_cons (ds_setO 8 nd (df_ct c_list B.list (das_cons (de_ix (dv 4) (de_neg dint.s).s).s das_nil)))
  (dss_cons (ds_for PassesOwn.never rfl (di_range1 B.range (de_bin o_mod (de_ix (dv 1) (de_bin o_add dint.s (dv 5)).s).s dint.s).s) (dg_name 9 nd)
  (dss_cons (ds_set 13 nd (de_bin o_mod (de_ix (dv 1) (de_bin o_add (de_bin o_add dint.s (de_bin o_mul dint.s (dv 5)).s).s (dv 9)).s).s (dv 2)))
  (dss_cons (ds_set 14 nd (de_bin o_mod (de_ix (dv 1) (de_bin o_add (de_bin o_add dint.s (de_bin o_mul dint.s (dv 5)).s).s (dv 9)).s).s (dv 2)))
  (dss_cons (ds_if (dt_cmp o_gt (de_ix (dv 8) (dv 13)).s (de_bin o_add (de_ix (dv 8) (dv 14)).s dint.s).s)
  (dss_cons (ds_put 8 (dv 13) (de_bin o_sub (de_ix (dv 8) (dv 13)).s dint.s))
  (dss_one (ds_put 8 (dv 14) (de_bin o_add (de_ix (dv 8) (dv 14)).s dint.s))))
  dss_nil)
  (dss_one (ds_setO 8 nd (df_rev (df_cb c_sortI B.sorted (das_cons (dv 8) das_nil)).s)))))))
  (dss_one (ds_frz 8 (ds_app 4 (de_ct c_tup B.tuple (das_cons (dv 8) das_nil))))))))
  (dss_cons (ds_frz 4 (ds_unp (dc 4) (dg_tup rfl (dgs_cons 10 nd (dgs_cons 11 nd (dgs_cons 12 nd dgs_nil))))))
  (dss_cons (ds_set 6 nd (de_call (C__law_some_row.fc hr (Nat.le_refl _)) (da_cons (dc 1) (da_cons dint (da_cons (dc 2) (da_cons dint da_nil))))))
  (dss_cons (ds_if (DW.t (dw_or (dt_cmp o_isnot (de_call (C_over.fc hr (Nat.le_refl _)) (da_cons (dc 10) (da_cons (dc 11) da_nil))).s dbool.s) (dw_or (dt_cmp o_isnot (de_call (C_over.fc hr (Nat.le_refl _)) (da_cons (dc 11) (da_cons (dc 12) da_nil))).s dbool.s) (dw_or1 (dt_cmp o_isnot (de_call (C_over.fc hr (Nat.le_refl _)) (da_cons (dc 10) (da_cons (dc 12) da_nil))).s dbool.s)))))
  (dss_one (ds_ret dbool))
  dss_nil)
  (dss_cons (ds_if (DW.t (dw_or (dt_not (dt_val (de_call (C__law_is_bool.fc hr (Nat.le_refl _)) (da_cons (de_call (C_over.fc hr (Nat.le_refl _)) (da_cons (dc 12) (da_cons (dc 10) da_nil))) (da_cons (de_cmp (o_eq hr) (dv 10) (dv 12)) da_nil))).s)) (dw_or1 (dt_cmp o_isnot (de_call (C_over.fc hr (Nat.le_refl _)) (da_cons (de_call (C_turned.fc hr (Nat.le_refl _)) (da_cons (dc 10) da_nil)) (da_cons (de_call (C_turned.fc hr (Nat.le_refl _)) (da_cons (dc 12) da_nil)) da_nil))).s dbool.s))))
  (dss_one (ds_ret dbool))
  dss_nil)
  (dss_cons (ds_if (dt_cmp o_isnot (de_call (C_over.fc hr (Nat.le_refl _)) (da_cons (de_call (C_plus.fc hr (Nat.le_refl _)) (da_cons (dc 10) (da_cons (dc 6) da_nil))) (da_cons (de_call (C_plus.fc hr (Nat.le_refl _)) (da_cons (dc 12) (da_cons (dc 6) da_nil))) da_nil))).s dbool.s)
  (dss_one (ds_ret dbool))
  dss_nil)
  (dss_cons (ds_set 7 nd (de_bin o_add (de_ix (de_call (C_level_paper.fc hr (Nat.le_refl _)) (da_cons (dc 10) (da_cons (dc 11) da_nil))).s dint.s).s (de_sl (de_ix (de_call (C_level_paper.fc hr (Nat.le_refl _)) (da_cons (dc 11) (da_cons (dc 12) da_nil))).s dint.s).s (do_s dint.s) do_n).s))
  (dss_cons (ds_if (dt_cmp o_isnot (de_call (C_check_levels.fc hr (Nat.le_refl _)) (da_cons (dc 10) (da_cons (dc 12) (da_cons (dtup (da_cons dstr (da_cons (dc 7) da_nil))) da_nil)))).s dbool.s)
  (dss_one (ds_ret dbool))
  dss_nil)
  (dss_one (ds_ret (de_call (C__law_is_bool.fc hr (Nat.le_refl _)) (da_cons (de_call (C_check_levels.fc hr (Nat.le_refl _)) (da_cons (dc 12) (da_cons (dc 10) (da_cons (dtup (da_cons dstr (da_cons (dc 7) da_nil))) da_nil)))) (da_cons (de_and (de_cmp (o_eq hr) (dv 10) (dv 12)).s (de_oneE (de_cmp (o_eq hr) (de_cb c_len B.len (das_cons (dv 7) das_nil)).s dint.s))) da_nil)))))))))))))))))

end
theorem pth_bd {a b : List Int} {vs : List (List Int)} (P : Pth a b vs) (ha : ∀ x ∈ a, -50 ≤ x ∧ x ≤ 50) : ∀ k, k < vs.length → ∀ x ∈ vs.getD k [], -(50 + (k : Int)) ≤ x ∧ x ≤ 50 + (k : Int)
  | 0, _, x, hx => by
    rw [P.fst] at hx
    have := ha x hx
    omega
  | k + 1, hk, x, hx => by
    have ih := pth_bd P ha k (by omega)
    obtain ⟨l, m, hlm, hm, e⟩ := P.step k hk
    rw [e] at hx
    obtain ⟨i, hi, rfl⟩ := List.mem_iff_getElem.mp hx
    have hi' := hi
    rw [moveI_length] at hi'
    have h1 := moveI_get (i := l) (j := m) hi'
    rw [getDat hi] at h1
    have h2 := ih _ (getD_mem' hi')
    rw [h1]
    split <;> split <;> omega
theorem ov_bd {a b : List Int} (O : Ov a b) (h1 : 1 ≤ a.length) (ha : ∀ x ∈ a, -50 ≤ x ∧ x ≤ 50) : ∀ x ∈ b, -50 ≤ x ∧ x ≤ 50 := fun x hx => by
  have hl := O.len
  obtain ⟨i, hi, rfl⟩ := List.mem_iff_getElem.mp hx
  have u1 := fall_le O.fb (Nat.zero_le i) hi
  have u2 := fall_le O.fb (show i ≤ b.length - 1 by omega) (by omega)
  rw [getDat hi] at u1 u2
  have p1 := O.pre 1 h1
  have e1 := ps_succ (a := a) (k := 0) (by omega)
  have e2 := ps_succ (a := b) (k := 0) (by omega)
  have p2 := O.pre (a.length - 1) (by omega)
  have e3 := ps_succ (a := a) (k := a.length - 1) (by omega)
  have e4 := ps_succ (a := b) (k := a.length - 1) (by omega)
  rw [show a.length - 1 + 1 = a.length by omega] at e3 e4
  have ht := O.tot
  have a0 := ha _ (getD_mem' (ns := a) (i := 0) (by omega))
  have a1 := ha _ (getD_mem' (ns := a) (i := a.length - 1) (by omega))
  rw [show b.length - 1 = a.length - 1 by omega] at u2
  simp only [List.take_zero, List.sum_nil, Nat.zero_add] at e1 e2
  omega
theorem msum_bd5 {a : List Int} (hl : a.length ≤ 6) (h : ∀ x ∈ a, -50 ≤ x ∧ x ≤ 50) : ∀ k, k ≤ a.length + 1 → -(300 * (k : Nat)) ≤ msum a k ∧ msum a k ≤ 300 * (k : Nat)
  | 0, _ => by simp [msum]
  | k + 1, hk => by
    have ih := msum_bd5 hl h k (by omega)
    have := take_bd (B := 50) (by decide) h k (by omega)
    show _ ≤ msum a k + (a.take k).sum ∧ msum a k + (a.take k).sum ≤ _
    omega
theorem paper_bd {a b : List Int} {d : PyData} (h1 : 1 ≤ a.length) (h6 : a.length ≤ 6) (ha : ∀ x ∈ a, -50 ≤ x ∧ x ≤ 50) (h : LP a b d) : bdD 5000 200 10000 d = true ∧ d.depth ≤ 3 := by
  rcases h with ⟨hs, rfl⟩ | ⟨hs, k, g1, g2, g3, rfl⟩ | ⟨ho, vs, P, g1, ⟨_, g3, O⟩, rfl⟩
  · refine ⟨bd_tup.mpr ⟨by decide, fun x hx => ?_⟩, ?_⟩
    · rw [List.mem_singleton.mp hx]
      exact bd_str.mpr ⟨by decide, sh_totals⟩
    · rw [depth_t]
      refine Nat.succ_le_succ (dall_le fun x hx => ?_)
      rw [List.mem_singleton.mp hx, dep_leaf_str]
      exact Nat.zero_le _
  · refine ⟨bd_tup.mpr ⟨by simp, fun x hx => ?_⟩, ?_⟩
    · simp only [List.mem_cons, List.not_mem_nil, or_false] at hx
      rcases hx with rfl | rfl
      · exact bd_str.mpr ⟨by decide, sh_less⟩
      · exact bd_int.mpr (by omega)
    · rw [depth_t]
      refine Nat.succ_le_succ (dall_le fun x hx => ?_)
      simp only [List.mem_cons, List.not_mem_nil, or_false] at hx
      rcases hx with rfl | rfl
      · rw [dep_leaf_str]
        exact Nat.zero_le _
      · rw [dep_leaf_int]
        exact Nat.zero_le _
  · have hlen := O.len
    have bb := ov_bd O h1 ha
    have ma := msum_bd5 h6 ha (b.length + 1) (by omega)
    have mb := msum_bd5 (a := b) (by omega) bb (b.length + 1) (by omega)
    have hv : vs.length ≤ 4500 := by omega
    have hw : ∀ r ∈ vs, r.length ≤ 5000 ∧ ∀ x ∈ r, x.natAbs ≤ 10000 := fun r hr => by
      have Or := P.ov r hr
      refine ⟨by have := Or.len; omega, fun x hx => ?_⟩
      obtain ⟨i, hi, e⟩ := List.mem_iff_getElem.mp hr
      have := pth_bd P ha i hi x (by rw [getDat hi, e]; exact hx)
      omega
    refine ⟨bd_tup.mpr ⟨by simp, fun x hx => ?_⟩, ?_⟩
    · simp only [List.mem_cons, List.not_mem_nil, or_false] at hx
      rcases hx with rfl | rfl
      · exact bd_str.mpr ⟨by decide, sh_moves⟩
      · exact rows_bd (by omega) hw
    · rw [depth_t]
      refine Nat.succ_le_succ (dall_le fun x hx => ?_)
      simp only [List.mem_cons, List.not_mem_nil, or_false] at hx
      rcases hx with rfl | rfl
      · rw [dep_leaf_str]
        exact Nat.zero_le _
      · exact rows_dep vs

/-- how much of a list stands above t -/
def above (t : Int) (a : List Int) : Int := (a.map fun x => if t < x then x - t else 0).sum
theorem above_cons (t x : Int) (r : List Int) : above t (x :: r) = (if t < x then x - t else 0) + above t r := by
  unfold above
  rw [List.map_cons, List.sum_cons]
theorem above_nn (t : Int) : ∀ a : List Int, 0 ≤ above t a
  | [] => Int.le_refl _
  | x :: r => by
    rw [above_cons]
    have := above_nn t r
    split <;> omega
theorem above_ge (t : Int) : ∀ (a : List Int) (k : Nat), k ≤ a.length → (a.take k).sum - (k : Int) * t ≤ above t a
  | a, 0, _ => by
    have := above_nn t a
    simpa using this
  | [], k + 1, h => absurd h (Nat.not_succ_le_zero _)
  | x :: r, k + 1, h => by
    have ih := above_ge t r k (by rw [List.length_cons] at h; omega)
    rw [above_cons, List.take_succ_cons, List.sum_cons, show ((k + 1 : Nat) : Int) * t = (k : Int) * t + t by rw [Int.natCast_add, Int.add_mul]; simp]
    split <;> omega
theorem above_low {t : Int} : ∀ {a : List Int}, (∀ x ∈ a, x ≤ t) → above t a = 0
  | [], _ => rfl
  | x :: r, h => by
    have := h x List.mem_cons_self
    rw [above_cons, above_low fun y hy => h y (List.mem_cons_of_mem _ hy), if_neg (by omega)]
    rfl
theorem above_eq (t : Int) : ∀ {a : List Int}, a.Pairwise (· ≥ ·) → ∃ k, k ≤ a.length ∧ above t a = (a.take k).sum - (k : Int) * t
  | [], _ => ⟨0, Nat.le_refl _, by simp [above]⟩
  | x :: r, h => by
    rw [List.pairwise_cons] at h
    by_cases hx : t < x
    · obtain ⟨k, hk, e⟩ := above_eq t h.2
      refine ⟨k + 1, by rw [List.length_cons]; omega, ?_⟩
      rw [above_cons, if_pos hx, e, List.take_succ_cons, List.sum_cons, show ((k + 1 : Nat) : Int) * t = (k : Int) * t + t by rw [Int.natCast_add, Int.add_mul]; simp]
      omega
    · refine ⟨0, Nat.zero_le _, ?_⟩
      rw [above_low fun y hy => ?_]
      · simp
      · rcases List.mem_cons.mp hy with rfl | hy
        · omega
        · have := h.1 y hy
          omega
theorem above_at : ∀ {a : List Int}, a.Pairwise (· ≥ ·) → ∀ k, k < a.length → above (a.getD k 0) a = (a.take (k + 1)).sum - ((k + 1 : Nat) : Int) * a.getD k 0
  | [], _, k, hk => absurd hk (Nat.not_lt_zero _)
  | x :: r, h, 0, _ => by
    rw [List.pairwise_cons] at h
    show above x (x :: r) = x + ([] : List Int).sum - 1 * x
    rw [above_cons, if_neg (by omega), above_low fun y hy => h.1 y hy]
    simp
  | x :: r, h, k + 1, hk => by
    rw [List.pairwise_cons] at h
    rw [List.length_cons] at hk
    have ih := above_at h.2 k (by omega)
    have hm := h.1 _ (getD_mem' (ns := r) (i := k) (by omega))
    show above (r.getD k 0) (x :: r) = (x + (r.take (k + 1)).sum) - ((k + 1 + 1 : Nat) : Int) * r.getD k 0
    rw [above_cons, ih, show ((k + 1 + 1 : Nat) : Int) * r.getD k 0 = ((k + 1 : Nat) : Int) * r.getD k 0 + r.getD k 0 by rw [Int.natCast_add (k + 1) 1, Int.add_mul]; simp]
    split <;> omega
theorem _root_.Pd.Ov.above {a b : List Int} (O : Ov a b) (t : Int) : above t b ≤ Lw.above t a := by
  obtain ⟨k, hk, e⟩ := above_eq t O.fb
  rw [e]
  have h1 := O.pre k (by rw [O.len]; exact hk)
  have h2 := above_ge t a k (by rw [O.len]; exact hk)
  omega
theorem ov_of_above {a b : List Int} (hl : a.length = b.length) (fa : a.Pairwise (· ≥ ·)) (fb : b.Pairwise (· ≥ ·)) (hs : a.sum = b.sum) (h : ∀ t, above t b ≤ above t a) : Ov a b :=
  ⟨hl, fa, fb, fun k hk => by
    cases k with
    | zero => simp
    | succ k =>
      have h1 := above_at fa k hk
      have h2 := above_ge (a.getD k 0) b (k + 1) (by omega)
      have h3 := h (a.getD k 0)
      omega, by rw [sum_all, hl, sum_all, hs]⟩
theorem sum_perm {a b : List Int} (h : a.Perm b) : a.sum = b.sum := by
  induction h with
  | nil => rfl
  | cons x _ ih => rw [List.sum_cons, List.sum_cons, ih]
  | swap x y l =>
    rw [List.sum_cons, List.sum_cons, List.sum_cons, List.sum_cons]
    omega
  | trans _ _ h1 h2 => exact h1.trans h2
theorem above_perm {t : Int} {a b : List Int} (h : a.Perm b) : above t a = above t b := sum_perm (h.map _)
theorem above_set (t v : Int) : ∀ (a : List Int) (i : Nat), i < a.length → above t (a.set i v) = above t a - (if t < a.getD i 0 then a.getD i 0 - t else 0) + (if t < v then v - t else 0)
  | [], _, h => absurd h (Nat.not_lt_zero _)
  | x :: r, 0, _ => by
    show above t (v :: r) = above t (x :: r) - (if t < x then x - t else 0) + _
    rw [above_cons, above_cons]
    omega
  | x :: r, i + 1, h => by
    have ih := above_set t v r i (by rw [List.length_cons] at h; omega)
    show above t (x :: r.set i v) = above t (x :: r) - (if t < r.getD i 0 then r.getD i 0 - t else 0) + _
    rw [above_cons, above_cons, ih]
    omega
theorem sum_set (v : Int) : ∀ (a : List Int) (i : Nat), i < a.length → (a.set i v).sum = a.sum - a.getD i 0 + v
  | [], _, h => absurd h (Nat.not_lt_zero _)
  | x :: r, 0, _ => by
    show v + r.sum = x + r.sum - x + v
    omega
  | x :: r, i + 1, h => by
    have ih := sum_set v r i (by rw [List.length_cons] at h; omega)
    show x + (r.set i v).sum = x + r.sum - r.getD i 0 + v
    rw [ih]
    omega
theorem getD_set_ne {a : List Int} {i j : Nat} {v : Int} (h : i ≠ j) : (a.set i v).getD j 0 = a.getD j 0 := by
  rw [List.getD_eq_getElem?_getD, List.getD_eq_getElem?_getD, List.getElem?_set_ne h]
/-- one box goes to a lower place, then the row is put in order -/
theorem ov_transfer {a : List Int} (fa : a.Pairwise (· ≥ ·)) {i j : Nat} (hi : i < a.length) (hj : j < a.length) (h : a.getD i 0 > a.getD j 0 + 1) :
    Ov a (sortI ((a.set i (a.getD i 0 - 1)).set j (a.getD j 0 + 1))).reverse := by
  have hij : i ≠ j := fun e => by
    subst e
    omega
  have e1 : (a.set i (a.getD i 0 - 1)).getD j 0 = a.getD j 0 := getD_set_ne hij
  have pm : (sortI ((a.set i (a.getD i 0 - 1)).set j (a.getD j 0 + 1))).reverse.Perm ((a.set i (a.getD i 0 - 1)).set j (a.getD j 0 + 1)) := (List.reverse_perm _).trans (sortI_perm _)
  refine ov_of_above ?_ fa (fall_sort _) ?_ fun t => ?_
  · rw [List.length_reverse, sortI_length, List.length_set, List.length_set]
  · rw [sum_perm pm, sum_set _ _ _ (by rw [List.length_set]; exact hj), sum_set _ _ _ hi, e1]
    omega
  · rw [above_perm pm, above_set _ _ _ _ (by rw [List.length_set]; exact hj), above_set _ _ _ _ hi, e1]
    generalize a.getD i 0 = x at h ⊢
    generalize a.getD j 0 = y at h ⊢
    have q1 : (if t < x - 1 then x - 1 - t else 0) + (if t < y + 1 then y + 1 - t else 0) ≤ (if t < x then x - t else 0) + (if t < y then y - t else 0) := by
      split <;> split <;> split <;> split <;> omega
    omega
theorem _root_.Pd.Ov.trans {a b c : List Int} (h : Ov a b) (g : Ov b c) : Ov a c :=
  ⟨h.len.trans g.len, h.fa, g.fb, fun k hk => Int.le_trans (g.pre k (by rw [← h.len]; exact hk)) (h.pre k hk), by
    have h1 := h.tot
    have h2 := g.tot
    rw [← h.len] at h2
    exact h1.trans h2⟩
theorem _root_.Pd.Ov.self {a : List Int} (h : a.Pairwise (· ≥ ·)) : Ov a a := ⟨rfl, h, h, fun _ _ => Int.le_refl _, rfl⟩
theorem _root_.Pd.Ov.sum {a b : List Int} (O : Ov a b) : a.sum = b.sum := by
  have := O.tot
  rw [sum_all, O.len, sum_all] at this
  exact this
theorem _root_.Pd.Ov.overB {a b : List Int} (O : Ov a b) : Pd.overB a b = true := by
  unfold Pd.overB
  rw [O.sum, beq_self_eq_true, Bool.true_and, List.all_eq_true]
  intro j hj
  have := List.mem_range.mp hj
  exact decide_eq_true (O.pre (j + 1) (by omega))
theorem _root_.Pd.Ov.anti {a b : List Int} (O : Ov a b) (h : Pd.overB b a = true) : a = b := by
  unfold Pd.overB at h
  rw [Bool.and_eq_true, beq_iff_eq, List.all_eq_true] at h
  have hl := O.len
  have pre : ∀ k, k ≤ a.length → (a.take k).sum ≤ (b.take k).sum := fun k hk => by
    by_cases h0 : k = 0
    · subst h0
      simp
    · by_cases h1 : k = a.length
      · subst h1
        rw [O.tot]
        exact Int.le_refl _
      · have := of_decide_eq_true (h.2 (k - 1) (List.mem_range.mpr (by omega)))
        rw [show k - 1 + 1 = k by omega] at this
        exact this
  refine take_ext hl fun k hk => ?_
  have a1 := O.pre k (by omega)
  have a2 := O.pre (k + 1) hk
  have b1 := pre k (by omega)
  have b2 := pre (k + 1) hk
  rw [ps_succ hk, ps_succ (by omega)] at a2 b2
  omega
theorem _root_.Pd.Ov.antisymm {a b : List Int} (O : Ov a b) (g : Ov b a) : a = b := O.anti g.overB
theorem _root_.Pd.Ov.bd {a b : List Int} (O : Ov a b) {B : Int} (h : ∀ x ∈ a, -B ≤ x ∧ x ≤ B) : ∀ x ∈ b, -B ≤ x ∧ x ≤ B := fun x hx => by
  have hl := O.len
  obtain ⟨i, hi, e⟩ := List.mem_iff_getElem.mp hx
  have ex : b.getD i 0 = x := by rw [getDat hi, e]
  have c0 := fall_le O.fb (Nat.zero_le i) hi
  have cl := fall_le O.fb (show i ≤ b.length - 1 by omega) (show b.length - 1 < b.length by omega)
  have a0 := O.pre 1 (by omega)
  have z : (1 : Nat) = 0 + 1 := rfl
  rw [z, ps_succ (a := b) (by omega), ps_succ (a := a) (by omega)] at a0
  have al := O.pre (a.length - 1) (by omega)
  have at' := O.tot
  have e2 : a.length = a.length - 1 + 1 := by omega
  rw [e2, ps_succ (a := b) (by omega), ps_succ (a := a) (by omega)] at at'
  have h0 := h _ (getD_mem' (ns := a) (i := 0) (by omega))
  have hn := h _ (getD_mem' (ns := a) (i := a.length - 1) (by omega))
  simp only [List.take_zero, List.sum_nil] at a0
  rw [show b.length - 1 = a.length - 1 by omega] at cl
  omega
theorem turn_take (a : List Int) (k : Nat) (hk : k ≤ a.length) : ((a.reverse.map (- ·)).take k).sum = (a.take (a.length - k)).sum - a.sum := by
  have e : ∀ l : List Int, (l.map (- ·)).sum = - l.sum := fun l => by
    induction l with
    | nil => rfl
    | cons x r ih =>
      rw [List.map_cons, List.sum_cons, List.sum_cons, ih]
      omega
  have h1 : a.sum = (a.take (a.length - k)).sum + (a.drop (a.length - k)).sum := by rw [← List.sum_append, List.take_append_drop]
  rw [← List.map_take, e, List.take_reverse, List.sum_reverse]
  omega
theorem fall_turn {a : List Int} (h : a.Pairwise (· ≥ ·)) : (a.reverse.map (- ·)).Pairwise (· ≥ ·) := by
  rw [List.pairwise_map, List.pairwise_reverse]
  exact h.imp fun h => by omega
theorem _root_.Pd.Ov.turn {a b : List Int} (O : Ov a b) : Ov (a.reverse.map (- ·)) (b.reverse.map (- ·)) := by
  have hl := O.len
  have hs := O.sum
  have la : (a.reverse.map (- ·)).length = a.length := by rw [List.length_map, List.length_reverse]
  refine ⟨by rw [List.length_map, List.length_reverse, List.length_map, List.length_reverse, hl], fall_turn O.fa, fall_turn O.fb, fun k hk => ?_, ?_⟩
  · rw [la] at hk
    rw [turn_take _ _ hk, turn_take _ _ (by omega)]
    have := O.pre (a.length - k) (by omega)
    rw [← hl]
    omega
  · rw [la, turn_take _ _ (Nat.le_refl _), turn_take _ _ (by omega), hl, Nat.sub_self, hs]
    simp
def plusI (a b : List Int) : List Int := (List.range a.length).map fun k => a.getD k 0 + b.getD k 0
theorem plusI_length (a b : List Int) : (plusI a b).length = a.length := by
  unfold plusI
  rw [List.length_map, List.length_range]
theorem plusI_take {a b : List Int} (h : b.length = a.length) : ∀ k, k ≤ a.length → ((plusI a b).take k).sum = (a.take k).sum + (b.take k).sum
  | 0, _ => by simp
  | k + 1, hk => by
    have e : (plusI a b).getD k 0 = a.getD k 0 + b.getD k 0 := by
      rw [getDat (by rw [plusI_length]; omega)]
      unfold plusI
      rw [List.getElem_map, List.getElem_range]
    rw [ps_succ (by rw [plusI_length]; omega), ps_succ (by omega), ps_succ (by omega), plusI_take h k (by omega), e]
    omega
theorem _root_.Pd.Ov.plus {a b c : List Int} (O : Ov a b) (fc : c.Pairwise (· ≥ ·)) (hc : c.length = a.length) : Ov (plusI a c) (plusI b c) := by
  have hl := O.len
  refine ⟨by rw [plusI_length, plusI_length, hl], fall_plus O.fa fc hc, fall_plus O.fb fc (by omega), fun k hk => ?_, ?_⟩
  · rw [plusI_length] at hk
    rw [plusI_take hc k hk, plusI_take (by omega) k (by omega)]
    have := O.pre k hk
    omega
  · rw [plusI_length, plusI_take hc _ (Nat.le_refl _), plusI_take (by omega) _ (by omega)]
    have := O.tot
    omega
theorem mv_moveI {one : List Int} {l m : Nat} (hlm : l < m) (hm : m < one.length) : mvB one (moveI one l m) = true := by
  refine decide_eq_true ?_
  unfold chgL
  have hf : ((List.range one.length).filter fun j => !((moveI one l m).getD j 0 == one.getD j 0)) = [l, m] := by
    rw [← filter_two hlm hm]
    refine List.filter_congr fun j hj => ?_
    have hj := List.mem_range.mp hj
    rw [moveI_get hj, Bool.eq_iff_iff]
    by_cases c1 : j = l
    · rw [if_pos c1, if_neg (show ¬ j = m by omega), decide_eq_true c1]
      simp
      omega
    · by_cases c2 : j = m
      · rw [if_neg c1, if_pos c2, decide_eq_true c2]
        simp
        omega
      · rw [if_neg c1, if_neg c2, decide_eq_false c1, decide_eq_false c2]
        simp
  rw [hf]
  show [(moveI one l m).getD l 0 - one.getD l 0, (moveI one l m).getD m 0 - one.getD m 0] = _
  rw [moveI_get (by omega), moveI_get (by omega), if_pos rfl, if_neg (show ¬ l = m by omega), if_neg (show ¬ m = l by omega), if_pos rfl, show one.getD l 0 - 1 + 0 - one.getD l 0 = -1 by omega, show one.getD m 0 - 0 + 1 - one.getD m 0 = 1 by omega]
/-- a path, its rows' lengths, its steps -/
structure Pz (a b : List Int) (vs : List (List Int)) : Prop where
  ne : 1 ≤ vs.length
  fst : vs.getD 0 [] = a
  lst : vs.getD (vs.length - 1) [] = b
  row : ∀ r ∈ vs, r.length = a.length ∧ r.Pairwise (· ≥ ·)
  step : ∀ k, k + 1 < vs.length → mvB (vs.getD k []) (vs.getD (k + 1) []) = true
theorem getD_app {vs ws : List (List Int)} (k : Nat) : (vs ++ ws).getD k [] = if k < vs.length then vs.getD k [] else ws.getD (k - vs.length) [] := by
  rw [List.getD_eq_getElem?_getD, List.getElem?_append]
  split <;> rw [List.getD_eq_getElem?_getD]
theorem Pz.join {a b c : List Int} {vs ws : List (List Int)} (P : Pz a b vs) (Q : Pz b c ws) (hab : a.length = b.length) : Pz a c (vs ++ ws.drop 1) := by
  have p1 := P.ne
  have q1 := Q.ne
  have gd : ∀ k, (ws.drop 1).getD k [] = ws.getD (k + 1) [] := fun k => by
    rw [List.getD_eq_getElem?_getD, List.getElem?_drop, List.getD_eq_getElem?_getD, Nat.add_comm]
  have hl : (vs ++ ws.drop 1).length = vs.length + (ws.length - 1) := by rw [List.length_append, List.length_drop]
  refine ⟨by omega, ?_, ?_, fun r hr => ?_, fun k hk => ?_⟩
  · rw [getD_app, if_pos (by omega), P.fst]
  · rw [getD_app, hl]
    by_cases h : ws.length = 1
    · rw [if_pos (by omega), show vs.length + (ws.length - 1) - 1 = vs.length - 1 by omega, P.lst, ← Q.lst, h]
      exact Q.fst.symm
    · rw [if_neg (by omega), gd, show vs.length + (ws.length - 1) - 1 - vs.length + 1 = ws.length - 1 by omega, Q.lst]
  · rcases List.mem_append.mp hr with hr | hr
    · exact P.row r hr
    · have := Q.row r (List.mem_of_mem_drop hr)
      exact ⟨by omega, this.2⟩
  · rw [hl] at hk
    rw [getD_app, getD_app]
    by_cases h1 : k + 1 < vs.length
    · rw [if_pos (by omega), if_pos h1]
      exact P.step k h1
    · by_cases h2 : k < vs.length
      · have e : k = vs.length - 1 := by omega
        rw [if_pos h2, if_neg h1, gd, e, P.lst, ← Q.fst, show vs.length - 1 + 1 - vs.length + 1 = 0 + 1 by omega]
        exact Q.step 0 (by omega)
      · rw [if_neg h2, if_neg h1, gd, gd, show k + 1 - vs.length + 1 = (k - vs.length + 1) + 1 by omega]
        exact Q.step _ (by omega)
theorem Pz.moves {a b : List Int} {vs : List (List Int)} (P : Pz a b vs) (h1 : 1 ≤ a.length) (h6 : a.length ≤ 6) (x y : List Int) (hx : x.length = a.length) : movesB x y (.tuple (vs.map fun r => PyData.tuple (r.map .int))) = (decide (a = x) && decide (b = y)) := by
  rw [movesB_t, rowInts_map, List.length_map, decide_eq_true P.ne, Bool.true_and]
  have e1 : (vs.map fun r => PyData.tuple (r.map .int)).all (fun d => rowB d && lenB x.length d) = true := by
    rw [List.all_eq_true]
    intro d hd
    obtain ⟨r, hr, rfl⟩ := List.mem_map.mp hd
    obtain ⟨g1, g2⟩ := P.row r hr
    rw [rowB_ints, fallB_of g2, decide_eq_true (by omega), Bool.true_and, Bool.true_and]
    show (((r.map PyData.int).length : Int) == (x.length : Int)) = true
    rw [List.length_map, beq_iff_eq]
    omega
  have e2 : ((List.range (vs.length - 1)).all fun k => mvB (vs.getD k []) (vs.getD (k + 1) [])) = true := by
    rw [List.all_eq_true]
    intro k hk
    exact P.step k (by have := List.mem_range.mp hk; omega)
  unfold pathB
  rw [e1, e2, P.fst, P.lst, Bool.true_and, Bool.and_true]
theorem LP.pz {a b : List Int} {d : PyData} (O : Ov a b) (h : LP a b d) : ∃ vs : List (List Int), Pz a b vs ∧ vs.length ≤ 1 + (msum a (b.length + 1) - msum b (b.length + 1)).toNat ∧ vs.length ≤ 900000 ∧ d = .tuple [.str ("moves" : Str), .tuple (vs.map fun r => PyData.tuple (r.map .int))] := by
  have hl := O.len
  rcases h with ⟨h, _⟩ | ⟨_, k, h1, h2, h3, _⟩ | ⟨_, vs, P, g1, ⟨g2, g3, _⟩, e⟩
  · rw [O.sum, beq_self_eq_true] at h
    cases h
  · have := O.pre k (by omega)
    omega
  · refine ⟨vs, ⟨P.ne, P.fst, g1, fun r hr => ?_, fun k hk => ?_⟩, g3, g2, e⟩
    · have := P.ov r hr
      exact ⟨by have := this.len; omega, this.fa⟩
    · obtain ⟨l, m, q1, q2, q3⟩ := P.step k hk
      rw [q3]
      have := (P.ov _ (getD_memL (vs := vs) (k := k) (by omega))).len
      exact mv_moveI q1 (by omega)
theorem cut_1 (xs : List PyData) (h : 1 ≤ xs.length) : Pd.cutD xs (some 1) none = xs.drop 1 := by
  unfold Pd.cutD
  have a1 : HT.sIx xs.length 0 (some ((1 : Nat) : Int)) = min 1 xs.length := HT.sIx_nat _ _ _
  have b1 : HT.sIx xs.length xs.length none = xs.length := rfl
  rw [show (some (1 : Int)) = some ((1 : Nat) : Int) from rfl, a1, b1, Nat.min_eq_left h, List.take_of_length_le (by rw [List.length_drop]; exact Nat.le_refl _)]
/-- one turn of moves -/
theorem row_loop (s0 s3 s4 s6 s7 s9 s10 s11 s12 s13 s14 : Sl) {rs : List Int} (hrs : rs.length = 40) {n : Nat} (hn : 1 ≤ n) (h6 : n ≤ 6) {t : Nat} (ht : t < 2) {st : List Int} (hst : st.length = n) (fst : st.Pairwise (· ≥ ·)) :
    ∃ (st' : List Int) (z9 z13 z14 : Sl), Ov st st' ∧ L_law_2 [s0, .cl (.list (rs.map .int)), .cl (.int (n : Nat)), s3, s4, .cl (.int (t : Nat)), s6, s7, .ow (st.map .int), s9, s10, s11, s12, s13, s14] = some (.nx [s0, .cl (.list (rs.map .int)), .cl (.int (n : Nat)), s3, s4, .cl (.int (t : Nat)), s6, s7, .ow (st'.map .int), z9, s10, s11, s12, z13, z14]) := by
  have e10 : atI (rs.map PyData.int) (10 + (t : Int)) = some (.int (rs.getD (10 + t) 0)) := e_at (i := 10 + t) (by omega)
  have m4 := mod_rng (rs.getD (10 + t) 0) (show (0 : Int) < 4 by decide)
  have M4 := modC_of (i := rs.getD (10 + t) 0) (show (0 : Int) < 4 by decide)
  generalize rs.getD (10 + t) 0 % 4 = q at m4 M4
  have hn0 : (0 : Int) < (n : Int) := by omega
  have tm : mulC 4 (t : Int) = some (.int (4 * (t : Int))) := mulC_l (by decide) (by decide)
  unfold L_law_2 sFor
  simp -implicitDefEqProofs only [z_bool_none, z_bool_bool, z_bool_int, z_bool_str, z_bool_list, z_bool_tuple, z_int_none, z_int_bool, z_int_int, z_int_str, z_int_list, z_int_tuple, z_tuple_none, z_tuple_bool, z_tuple_int, z_tuple_str, z_tuple_list, z_tuple_tuple, z_list_none, z_list_bool, z_list_int, z_list_str, z_list_list, z_list_tuple, z_str_none, z_str_bool, z_str_int, z_str_str, z_str_list, z_str_tuple, z_dict_none, z_dict_bool, z_dict_int, z_dict_str, z_dict_list, z_dict_tuple, q_seq, q_thn, q_thr, q_thb, q_thc, q_thro, q_if, q_ift, q_iff, q_nil, q_ret, q_retN, q_set, q_setO, q_setC, q_setW, q_frz, q_frzo, q_frzc, q_frzu, q_frzt, q_frzt', q_frzr, q_V, q_C, q_ow, q_Vc, q_Vo, q_Cc, q_Oo, q_K, q_N, q_aC, q_aC1, q_tup, q_lst, q_L, q_b, q_bb, q_kB, q_kNot, q_kAnd, q_kOr, q_kit, q_kif, q_kot, q_kof, q_eAnd, q_eOr, q_eit, q_eif, q_eot, q_eof, q_eNot, q_notO, q_eIf, q_eIt, q_eIff, q_bin, q_bin1, q_ch, q_ch1, q_ch2, q_ch3t, q_ch3f, q_addI, q_addS, q_addT, q_addL, q_sub, q_mul, q_mulT, q_imul, q_iadd, q_iaddS, q_fdiv, q_mod, q_pow, q_lsh, q_rsh, q_band, q_lt, q_le, q_gt, q_ge, q_eqI, q_neI, q_isB, q_isN, q_isnB, q_isnN, q_neg, q_un, q_revL, q_revT, q_ixL, q_ixT, q_iOf, q_oN, q_oS, q_sl, q_sl1, q_sl2, q_slT, q_slL, q_call, q_cb, q_cf, q_lenL, q_lenT, q_intI, q_intB, q_abs, q_tupL, q_tupT, q_listL, q_listT, q_sort, q_all, q_max2, q_min2, q_sumL, q_sumT, q_isi, q_isO, q_iseq, q_itL, q_itT, q_revF, q_lrv, q_r1, q_r2, q_r2', q_gN, q_gT, q_gTL, q_sAn, q_sAc, q_app, q_app1, q_app2, q_put, q_put1, q_put2, q_put3, q_aug, q_unp, q_unp1, q_nxO, q_par, q_parO, q_run, q_outr, q_outn, start0, Option.bind_some, Option.bind_none, Option.map_some, Option.map_none, List.map_cons, List.map_nil, List.length_cons, List.length_nil, List.replicate_succ, List.replicate_zero, List.cons_append, List.nil_append, List.append_nil, List.getElem?_cons_zero, List.getElem?_cons_succ, List.getElem?_nil, List.set_cons_zero, List.set_cons_succ, chkL_of, chkT_of, Nat.zero_le, Nat.reduceLeDiff, Nat.reduceSub, Nat.reduceAdd, Nat.sub_self, Bool.not_false, Bool.not_true, e10, M4, rngD_of (m := 0) (n := q) (by omega) (by omega) (by omega) (by omega), Int.sub_zero]
  obtain ⟨E', e, st', z9, z13, z14, O, rfl⟩ := forR_ix (lo := 0) (n := q.toNat) (body := fun d E => (gN 9 d E).bind B_law_2) (fun k E => ∃ (st' : List Int) (z9 z13 z14 : Sl), Ov st st' ∧ E = [s0, .cl (.list (rs.map .int)), .cl (.int (n : Nat)), s3, s4, .cl (.int (t : Nat)), s6, s7, .ow (st'.map .int), z9, s10, s11, s12, z13, z14]) (fun k E hk ⟨st', z9, z13, z14, O, e⟩ => by
    subst e
    have hl := O.len
    rw [Int.zero_add]
    have e1 : atI (rs.map PyData.int) (12 + 4 * (t : Int) + (k : Int)) = some (.int (rs.getD (12 + 4 * t + k) 0)) := e_at (i := 12 + 4 * t + k) (by omega)
    have e2 : atI (rs.map PyData.int) (20 + 4 * (t : Int) + (k : Int)) = some (.int (rs.getD (20 + 4 * t + k) 0)) := e_at (i := 20 + 4 * t + k) (by omega)
    have bi := mod_rng (rs.getD (12 + 4 * t + k) 0) hn0
    have Mi := modC_of (i := rs.getD (12 + 4 * t + k) 0) hn0
    have bj := mod_rng (rs.getD (20 + 4 * t + k) 0) hn0
    have Mj := modC_of (i := rs.getD (20 + 4 * t + k) 0) hn0
    generalize rs.getD (12 + 4 * t + k) 0 % (n : Int) = i at bi Mi
    generalize rs.getD (20 + 4 * t + k) 0 % (n : Int) = j at bj Mj
    obtain ⟨i, rfl⟩ : ∃ i' : Nat, i = (i' : Int) := ⟨i.toNat, by omega⟩
    obtain ⟨j, rfl⟩ : ∃ j' : Nat, j = (j' : Int) := ⟨j.toNat, by omega⟩
    have g1 : atI (st'.map PyData.int) (i : Int) = some (.int (st'.getD i 0)) := e_at (by omega)
    have g2 : atI (st'.map PyData.int) (j : Int) = some (.int (st'.getD j 0)) := e_at (by omega)
    have x1 := ixN_in (n := st'.length) (k := (i : Int)) (by omega) (by omega)
    have x2 := ixN_in (n := st'.length) (k := (j : Int)) (by omega) (by omega)
    rw [Int.toNat_natCast] at x1 x2
    by_cases hc : st'.getD j 0 + 1 < st'.getD i 0
    · have hij : i ≠ j := fun e => by
        subst e
        omega
      have g3 : atI ((st'.set i (st'.getD i 0 - 1)).map PyData.int) (j : Int) = some (.int (st'.getD j 0)) := by
        rw [← getD_set_ne (v := st'.getD i 0 - 1) hij]
        exact e_at (by rw [List.length_set]; omega)
      have O2 := O.trans (ov_transfer O.fb (by omega) (by omega) hc)
      refine ⟨[s0, .cl (.list (rs.map .int)), .cl (.int (n : Nat)), s3, s4, .cl (.int (t : Nat)), s6, s7, .ow ((sortI ((st'.set i (st'.getD i 0 - 1)).set j (st'.getD j 0 + 1))).reverse.map .int), .cl (.int (k : Nat)), s10, s11, s12, .cl (.int (i : Nat)), .cl (.int (j : Nat))], ?_, _, _, _, _, O2, rfl⟩
      unfold B_law_2
      simp -implicitDefEqProofs only [z_bool_none, z_bool_bool, z_bool_int, z_bool_str, z_bool_list, z_bool_tuple, z_int_none, z_int_bool, z_int_int, z_int_str, z_int_list, z_int_tuple, z_tuple_none, z_tuple_bool, z_tuple_int, z_tuple_str, z_tuple_list, z_tuple_tuple, z_list_none, z_list_bool, z_list_int, z_list_str, z_list_list, z_list_tuple, z_str_none, z_str_bool, z_str_int, z_str_str, z_str_list, z_str_tuple, z_dict_none, z_dict_bool, z_dict_int, z_dict_str, z_dict_list, z_dict_tuple, q_seq, q_thn, q_thr, q_thb, q_thc, q_thro, q_if, q_ift, q_iff, q_nil, q_ret, q_retN, q_set, q_setO, q_setC, q_setW, q_frz, q_frzo, q_frzc, q_frzu, q_frzt, q_frzt', q_frzr, q_V, q_C, q_ow, q_Vc, q_Vo, q_Cc, q_Oo, q_K, q_N, q_aC, q_aC1, q_tup, q_lst, q_L, q_b, q_bb, q_kB, q_kNot, q_kAnd, q_kOr, q_kit, q_kif, q_kot, q_kof, q_eAnd, q_eOr, q_eit, q_eif, q_eot, q_eof, q_eNot, q_notO, q_eIf, q_eIt, q_eIff, q_bin, q_bin1, q_ch, q_ch1, q_ch2, q_ch3t, q_ch3f, q_addI, q_addS, q_addT, q_addL, q_sub, q_mul, q_mulT, q_imul, q_iadd, q_iaddS, q_fdiv, q_mod, q_pow, q_lsh, q_rsh, q_band, q_lt, q_le, q_gt, q_ge, q_eqI, q_neI, q_isB, q_isN, q_isnB, q_isnN, q_neg, q_un, q_revL, q_revT, q_ixL, q_ixT, q_iOf, q_oN, q_oS, q_sl, q_sl1, q_sl2, q_slT, q_slL, q_call, q_cb, q_cf, q_lenL, q_lenT, q_intI, q_intB, q_abs, q_tupL, q_tupT, q_listL, q_listT, q_sort, q_all, q_max2, q_min2, q_sumL, q_sumT, q_isi, q_isO, q_iseq, q_itL, q_itT, q_revF, q_lrv, q_r1, q_r2, q_r2', q_gN, q_gT, q_gTL, q_sAn, q_sAc, q_app, q_app1, q_app2, q_put, q_put1, q_put2, q_put3, q_aug, q_unp, q_unp1, q_nxO, q_par, q_parO, q_run, q_outr, q_outn, start0, Option.bind_some, Option.bind_none, Option.map_some, Option.map_none, List.map_cons, List.map_nil, List.length_cons, List.length_nil, List.replicate_succ, List.replicate_zero, List.cons_append, List.nil_append, List.append_nil, List.getElem?_cons_zero, List.getElem?_cons_succ, List.getElem?_nil, List.set_cons_zero, List.set_cons_succ, chkL_of, chkT_of, Nat.zero_le, Nat.reduceLeDiff, Nat.reduceSub, Nat.reduceAdd, Nat.sub_self, Bool.not_false, Bool.not_true, tm, e1, e2, Mi, Mj, g1, g2, decide_eq_true hc, List.length_map, x1, setI, List.length_set, g3, x2, iL_map, List.map_reverse]
    · have hs : (sortI st').reverse = st' := by
        have : sortI st' = st'.reverse := sorted_uniq (sortI_sorted _) (by rw [List.pairwise_reverse]; exact O.fb) ((sortI_perm _).trans (List.reverse_perm _).symm)
        rw [this, List.reverse_reverse]
      refine ⟨[s0, .cl (.list (rs.map .int)), .cl (.int (n : Nat)), s3, s4, .cl (.int (t : Nat)), s6, s7, .ow (st'.map .int), .cl (.int (k : Nat)), s10, s11, s12, .cl (.int (i : Nat)), .cl (.int (j : Nat))], ?_, _, _, _, _, O, rfl⟩
      unfold B_law_2
      simp -implicitDefEqProofs only [z_bool_none, z_bool_bool, z_bool_int, z_bool_str, z_bool_list, z_bool_tuple, z_int_none, z_int_bool, z_int_int, z_int_str, z_int_list, z_int_tuple, z_tuple_none, z_tuple_bool, z_tuple_int, z_tuple_str, z_tuple_list, z_tuple_tuple, z_list_none, z_list_bool, z_list_int, z_list_str, z_list_list, z_list_tuple, z_str_none, z_str_bool, z_str_int, z_str_str, z_str_list, z_str_tuple, z_dict_none, z_dict_bool, z_dict_int, z_dict_str, z_dict_list, z_dict_tuple, q_seq, q_thn, q_thr, q_thb, q_thc, q_thro, q_if, q_ift, q_iff, q_nil, q_ret, q_retN, q_set, q_setO, q_setC, q_setW, q_frz, q_frzo, q_frzc, q_frzu, q_frzt, q_frzt', q_frzr, q_V, q_C, q_ow, q_Vc, q_Vo, q_Cc, q_Oo, q_K, q_N, q_aC, q_aC1, q_tup, q_lst, q_L, q_b, q_bb, q_kB, q_kNot, q_kAnd, q_kOr, q_kit, q_kif, q_kot, q_kof, q_eAnd, q_eOr, q_eit, q_eif, q_eot, q_eof, q_eNot, q_notO, q_eIf, q_eIt, q_eIff, q_bin, q_bin1, q_ch, q_ch1, q_ch2, q_ch3t, q_ch3f, q_addI, q_addS, q_addT, q_addL, q_sub, q_mul, q_mulT, q_imul, q_iadd, q_iaddS, q_fdiv, q_mod, q_pow, q_lsh, q_rsh, q_band, q_lt, q_le, q_gt, q_ge, q_eqI, q_neI, q_isB, q_isN, q_isnB, q_isnN, q_neg, q_un, q_revL, q_revT, q_ixL, q_ixT, q_iOf, q_oN, q_oS, q_sl, q_sl1, q_sl2, q_slT, q_slL, q_call, q_cb, q_cf, q_lenL, q_lenT, q_intI, q_intB, q_abs, q_tupL, q_tupT, q_listL, q_listT, q_sort, q_all, q_max2, q_min2, q_sumL, q_sumT, q_isi, q_isO, q_iseq, q_itL, q_itT, q_revF, q_lrv, q_r1, q_r2, q_r2', q_gN, q_gT, q_gTL, q_sAn, q_sAc, q_app, q_app1, q_app2, q_put, q_put1, q_put2, q_put3, q_aug, q_unp, q_unp1, q_nxO, q_par, q_parO, q_run, q_outr, q_outn, start0, Option.bind_some, Option.bind_none, Option.map_some, Option.map_none, List.map_cons, List.map_nil, List.length_cons, List.length_nil, List.replicate_succ, List.replicate_zero, List.cons_append, List.nil_append, List.append_nil, List.getElem?_cons_zero, List.getElem?_cons_succ, List.getElem?_nil, List.set_cons_zero, List.set_cons_succ, chkL_of, chkT_of, Nat.zero_le, Nat.reduceLeDiff, Nat.reduceSub, Nat.reduceAdd, Nat.sub_self, Bool.not_false, Bool.not_true, tm, e1, e2, Mi, Mj, g1, g2, decide_eq_false hc, iL_map, ← List.map_reverse, hs]) (E := [s0, .cl (.list (rs.map .int)), .cl (.int (n : Nat)), s3, s4, .cl (.int (t : Nat)), s6, s7, .ow (st.map .int), s9, s10, s11, s12, s13, s14]) ⟨_, _, _, _, Ov.self fst, rfl⟩
  exact ⟨st', z9, z13, z14, O, e⟩
theorem turn_body (s0 s3 s5 s6 s7 s8 s9 s10 s11 s12 s13 s14 : Sl) {rs : List Int} (hrs : rs.length = 40) {n : Nat} (hn : 1 ≤ n) (h6 : n ≤ 6) {t : Nat} (ht : t < 2) {vs : List (List Int)} {st : List Int} (hv : vs.length ≤ 5) (hst : st.length = n) (fst : st.Pairwise (· ≥ ·)) :
    ∃ (st' : List Int) (z8 z9 z13 z14 : Sl), Ov st st' ∧ B_law_1 [s0, .cl (.list (rs.map .int)), .cl (.int (n : Nat)), s3, .ow ((vs ++ [st]).map fun r => PyData.tuple (r.map .int)), .cl (.int (t : Nat)), s6, s7, s8, s9, s10, s11, s12, s13, s14] = some (.nx [s0, .cl (.list (rs.map .int)), .cl (.int (n : Nat)), s3, .ow ((vs ++ [st] ++ [st']).map fun r => PyData.tuple (r.map .int)), .cl (.int (t : Nat)), s6, s7, z8, z9, s10, s11, s12, z13, z14]) := by
  have el : atI ((vs ++ [st]).map fun r => PyData.tuple (r.map .int)) (-1) = some (.tuple (st.map .int)) := by
    rw [List.map_append]
    exact atI_lst _ _
  obtain ⟨st', z9, z13, z14, O, e⟩ := row_loop s0 s3 (.ow ((vs ++ [st]).map fun r => PyData.tuple (r.map .int))) s6 s7 s9 s10 s11 s12 s13 s14 hrs hn h6 ht hst fst
  have hch : chkL ((vs ++ [st]).map (fun r => PyData.tuple (r.map .int)) ++ [PyData.tuple (st'.map .int)]) = some ((vs ++ [st] ++ [st']).map fun r => PyData.tuple (r.map .int)) := by
    rw [chkL_of (by simp; omega), List.map_append (l₁ := vs ++ [st])]
    rfl
  refine ⟨st', .cl (.list (st'.map .int)), z9, z13, z14, O, ?_⟩
  unfold B_law_1
  simp -implicitDefEqProofs only [z_bool_none, z_bool_bool, z_bool_int, z_bool_str, z_bool_list, z_bool_tuple, z_int_none, z_int_bool, z_int_int, z_int_str, z_int_list, z_int_tuple, z_tuple_none, z_tuple_bool, z_tuple_int, z_tuple_str, z_tuple_list, z_tuple_tuple, z_list_none, z_list_bool, z_list_int, z_list_str, z_list_list, z_list_tuple, z_str_none, z_str_bool, z_str_int, z_str_str, z_str_list, z_str_tuple, z_dict_none, z_dict_bool, z_dict_int, z_dict_str, z_dict_list, z_dict_tuple, q_seq, q_thn, q_thr, q_thb, q_thc, q_thro, q_if, q_ift, q_iff, q_nil, q_ret, q_retN, q_set, q_setO, q_setC, q_setW, q_frz, q_frzo, q_frzc, q_frzu, q_frzt, q_frzt', q_frzr, q_V, q_C, q_ow, q_Vc, q_Vo, q_Cc, q_Oo, q_K, q_N, q_aC, q_aC1, q_tup, q_lst, q_L, q_b, q_bb, q_kB, q_kNot, q_kAnd, q_kOr, q_kit, q_kif, q_kot, q_kof, q_eAnd, q_eOr, q_eit, q_eif, q_eot, q_eof, q_eNot, q_notO, q_eIf, q_eIt, q_eIff, q_bin, q_bin1, q_ch, q_ch1, q_ch2, q_ch3t, q_ch3f, q_addI, q_addS, q_addT, q_addL, q_sub, q_mul, q_mulT, q_imul, q_iadd, q_iaddS, q_fdiv, q_mod, q_pow, q_lsh, q_rsh, q_band, q_lt, q_le, q_gt, q_ge, q_eqI, q_neI, q_isB, q_isN, q_isnB, q_isnN, q_neg, q_un, q_revL, q_revT, q_ixL, q_ixT, q_iOf, q_oN, q_oS, q_sl, q_sl1, q_sl2, q_slT, q_slL, q_call, q_cb, q_cf, q_lenL, q_lenT, q_intI, q_intB, q_abs, q_tupL, q_tupT, q_listL, q_listT, q_sort, q_all, q_max2, q_min2, q_sumL, q_sumT, q_isi, q_isO, q_iseq, q_itL, q_itT, q_revF, q_lrv, q_r1, q_r2, q_r2', q_gN, q_gT, q_gTL, q_sAn, q_sAc, q_app, q_app1, q_app2, q_put, q_put1, q_put2, q_put3, q_aug, q_unp, q_unp1, q_nxO, q_par, q_parO, q_run, q_outr, q_outn, start0, Option.bind_some, Option.bind_none, Option.map_some, Option.map_none, List.map_cons, List.map_nil, List.length_cons, List.length_nil, List.replicate_succ, List.replicate_zero, List.cons_append, List.nil_append, List.append_nil, List.getElem?_cons_zero, List.getElem?_cons_succ, List.getElem?_nil, List.set_cons_zero, List.set_cons_succ, chkL_of, chkT_of, Nat.zero_le, Nat.reduceLeDiff, Nat.reduceSub, Nat.reduceAdd, Nat.sub_self, Bool.not_false, Bool.not_true, el, e, hch]
theorem law_true (ns : List Int) (hl : ns.length ≤ 63) : F_law [scrD ns] = some (.bool true) := by
  obtain ⟨rs, eD, hne, hd, hm⟩ := draws_pack (cellI ns 0) (n := 40) (by decide) (by decide)
  have e0 : atI (rs.map PyData.int) 0 = some (.int (rs.getD 0 0)) := e_at (i := 0) (by omega)
  have m0 := mod_rng (rs.getD 0 0) (show (0 : Int) < 4 by decide)
  generalize hn : 2 + rs.getD 0 0 % 4 = n
  have eR := someRow_eq hne (by omega) 1 (n := n) (wide := 7) (by omega) (by omega) (by decide)
  have lR := someRow_length rs 1 n.toNat 7
  have fR := someRow_fall rs 1 n.toNat 7
  have bR : ∀ x ∈ someRow rs 1 n.toNat 7, -50 ≤ x ∧ x ≤ 50 := fun x hx => by
    have := someRow_mem (show (0 : Int) < 7 by decide) hx
    omega
  have eO := someRow_eq hne (by omega) 30 (n := n) (wide := 5) (by omega) (by omega) (by decide)
  have lO := someRow_length rs 30 n.toNat 5
  have fO := someRow_fall rs 30 n.toNat 5
  generalize someRow rs 1 n.toNat 7 = a at eR lR fR bR
  generalize someRow rs 30 n.toNat 5 = o at eO lO fO
  obtain ⟨m, rfl⟩ : ∃ m : Nat, n = (m : Int) := ⟨n.toNat, by omega⟩
  rw [Int.toNat_natCast] at lR lO
  obtain ⟨b, z8, z9, z13, z14, O1, t1⟩ := turn_body (.cl (scrD ns)) (.cl (.tuple (a.map .int))) (.cl (.int (0 : Nat))) .un .un .un .un .un .un .un .un .un (rs := rs) (by omega) (n := m) (by omega) (by omega) (t := 0) (by decide) (vs := []) (st := a) (by simp) (by omega) fR
  obtain ⟨c, y8, y9, y13, y14, O2, t2⟩ := turn_body (.cl (scrD ns)) (.cl (.tuple (a.map .int))) (.cl (.int (1 : Nat))) .un .un z8 z9 .un .un .un z13 z14 (rs := rs) (by omega) (n := m) (by omega) (by omega) (t := 1) (by decide) (vs := [a]) (st := b) (by simp) (by have := O1.len; omega) O1.fb
  have loop : L_law_1 [.cl (scrD ns), .cl (.list (rs.map .int)), .cl (.int (m : Nat)), .cl (.tuple (a.map .int)), .ow [.tuple (a.map .int)], .un, .un, .un, .un, .un, .un, .un, .un, .un, .un] = some (.nx [.cl (scrD ns), .cl (.list (rs.map .int)), .cl (.int (m : Nat)), .cl (.tuple (a.map .int)), .ow [.tuple (a.map .int), .tuple (b.map .int), .tuple (c.map .int)], .cl (.int (1 : Nat)), .un, .un, y8, y9, .un, .un, .un, y13, y14]) := by
    have er : iRange1 (eK (.int 2)) [.cl (scrD ns), .cl (.list (rs.map .int)), .cl (.int (m : Nat)), .cl (.tuple (a.map .int)), .ow [.tuple (a.map .int)], .un, .un, .un, .un, .un, .un, .un, .un, .un, .un] = some [.int (0 : Nat), .int (1 : Nat)] := by rfl
    unfold L_law_1 sFor
    rw [er, Option.bind_some]
    show (B_law_1 [.cl (scrD ns), .cl (.list (rs.map .int)), .cl (.int (m : Nat)), .cl (.tuple (a.map .int)), .ow (([] ++ [a]).map fun r : List Int => PyData.tuple (r.map .int)), .cl (.int (0 : Nat)), .un, .un, .un, .un, .un, .un, .un, .un, .un]).bind _ = _
    rw [t1]
    show (B_law_1 [.cl (scrD ns), .cl (.list (rs.map .int)), .cl (.int (m : Nat)), .cl (.tuple (a.map .int)), .ow (([a] ++ [b]).map fun r : List Int => PyData.tuple (r.map .int)), .cl (.int (1 : Nat)), .un, .un, z8, z9, .un, .un, .un, z13, z14]).bind _ = _
    rw [t2]
    rfl
  have lb := O1.len
  have lc := O2.len
  have bb := O1.bd (B := 50) bR
  have bc := O2.bd (B := 50) bb
  have O3 := O1.trans O2
  obtain ⟨d1, eP1, hP1⟩ := level_e (a := a) (b := b) (by omega) (by omega) (by omega) fR O1.fb (fun x hx => by have := bR x hx; omega) (fun x hx => by have := bb x hx; omega)
  obtain ⟨d2, eP2, hP2⟩ := level_e (a := b) (b := c) (by omega) (by omega) (by omega) O1.fb O2.fb (fun x hx => by have := bb x hx; omega) (fun x hx => by have := bc x hx; omega)
  obtain ⟨pb1, _⟩ := paper_bd (by omega) (by omega) bR hP1
  obtain ⟨pb2, _⟩ := paper_bd (by omega) (by omega) bb hP2
  obtain ⟨vs, P1, l1, k1, rfl⟩ := hP1.pz O1
  obtain ⟨ws, P2, l2, k2, rfl⟩ := hP2.pz O2
  have m1 := msum_bd (a := a) (by omega) (fun x hx => by have := bR x hx; omega) (b.length + 1) (by omega)
  have m2 := msum_bd (a := b) (by omega) (fun x hx => by have := bb x hx; omega) (b.length + 1) (by omega)
  have m3 := msum_bd (a := b) (by omega) (fun x hx => by have := bb x hx; omega) (c.length + 1) (by omega)
  have m4 := msum_bd (a := c) (by omega) (fun x hx => by have := bc x hx; omega) (c.length + 1) (by omega)
  have P3 := P1.join P2 lb
  have i1 : atI [PyData.str ("moves" : Str), .tuple (vs.map fun r => PyData.tuple (r.map .int))] 1 = some (.tuple (vs.map fun r => PyData.tuple (r.map .int))) := rfl
  have i2 : atI [PyData.str ("moves" : Str), .tuple (ws.map fun r => PyData.tuple (r.map .int))] 1 = some (.tuple (ws.map fun r => PyData.tuple (r.map .int))) := rfl
  have p1 := P1.ne
  have p2 := P2.ne
  have hj : dAdd (.tuple (vs.map fun r => PyData.tuple (r.map .int))) (.tuple (Pd.cutD (ws.map fun r => PyData.tuple (r.map .int)) (some 1) none)) = some (.tuple ((vs ++ ws.drop 1).map fun r => PyData.tuple (r.map .int))) := by
    rw [cut_1 _ (by rw [List.length_map]; exact p2), ← List.map_drop]
    show chkT _ = _
    rw [← List.map_append]
    exact chkT_of (by rw [List.length_map, List.length_append, List.length_drop]; omega)
  have hjl : (vs ++ ws.drop 1).length = vs.length + (ws.length - 1) := by rw [List.length_append, List.length_drop]
  have ec := fun (x y : List Int) (hx : x.length ≤ 1000) (bx : bdD 100000 1000 100000 (.tuple [.str ("moves" : Str), .tuple ((vs ++ ws.drop 1).map fun r => PyData.tuple (r.map .int))]) = true) => check_e (a := x) (b := y) hx (by decide) bx
  have bj : bdD 100000 1000 100000 (.tuple [.str ("moves" : Str), .tuple ((vs ++ ws.drop 1).map fun r => PyData.tuple (r.map .int))]) = true := bd_tup.mpr ⟨by simp, fun z hz => by
    simp only [List.mem_cons, List.not_mem_nil, or_false] at hz
    rcases hz with rfl | rfl
    · exact bd_str.mpr ⟨by decide, sh_moves⟩
    · have u1 := bd_tup.mp ((bd_tup.mp pb1).2 (.tuple (vs.map fun r => PyData.tuple (r.map .int))) (by simp))
      have u2 := bd_tup.mp ((bd_tup.mp pb2).2 (.tuple (ws.map fun r => PyData.tuple (r.map .int))) (by simp))
      have w1 := u1.1
      have w2 := u2.1
      rw [List.length_map] at w1 w2
      refine bd_tup.mpr ⟨by rw [List.length_map, List.length_append, List.length_drop]; omega, fun x hx => ?_⟩
      rw [List.map_append] at hx
      rcases List.mem_append.mp hx with hx | hx
      · exact bd_mono (by decide) (by decide) (by decide) _ (u1.2 x hx)
      · rw [List.map_drop] at hx
        exact bd_mono (by decide) (by decide) (by decide) _ (u2.2 x (List.mem_of_mem_drop hx))⟩
  have nm : namedB ("moves" : Str) 2 (.tuple [.str ("moves" : Str), .tuple ((vs ++ ws.drop 1).map fun r => PyData.tuple (r.map .int))]) = true := by
    show ((((1 + 1 : Nat) : Int) == 2) && (("moves" : Str) == ("moves" : Str))) = true
    rw [s_mm]
    rfl
  have lv : ∀ x y : List Int, x.length = a.length → lvB x y (.tuple [.str ("moves" : Str), .tuple ((vs ++ ws.drop 1).map fun r => PyData.tuple (r.map .int))]) = (decide (a = x) && decide (c = y)) := fun x y hx => by
    unfold lvB
    rw [if_pos nm]
    exact P3.moves (by omega) (by omega) x y hx
  have c1 := ec a c (by omega) bj
  have c2 := ec c a (by omega) bj
  rw [lv a c rfl, decide_eq_true rfl, decide_eq_true rfl, Bool.and_self] at c1
  rw [lv c a (by omega)] at c2
  have o1 := over_e (a := a) (b := b) (by omega) (by omega)
  have o2 := over_e (a := b) (b := c) (by omega) (by omega)
  have o3 := over_e (a := a) (b := c) (by omega) (by omega)
  have o4 := over_e (a := c) (b := a) (by omega) (by omega)
  have t3 := over_e (a := a.reverse.map (- ·)) (b := c.reverse.map (- ·)) (by rw [List.length_map, List.length_reverse]; omega) (by rw [List.length_map, List.length_reverse]; omega)
  have q3 := over_e (a := plusI a o) (b := plusI c o) (by rw [plusI_length]; omega) (by rw [plusI_length]; omega)
  rw [O1.overB] at o1
  rw [O2.overB] at o2
  rw [O3.overB] at o3
  rw [O3.turn.overB] at t3
  rw [(O3.plus fO (by omega)).overB] at q3
  have e4 : Pd.overB c a = decide (a = c) := by
    by_cases h : a = c
    · subst h
      rw [decide_eq_true rfl, (Ov.self fR).overB]
    · rw [decide_eq_false h]
      cases hh : Pd.overB c a with
      | false => rfl
      | true => exact absurd (O3.anti hh) h
  rw [e4] at o4
  have pa : F_plus [.tuple (a.map .int), .tuple (o.map .int)] = some (.tuple ((plusI a o).map .int)) := plus_e (by omega) (by omega)
  have pc : F_plus [.tuple (c.map .int), .tuple (o.map .int)] = some (.tuple ((plusI c o).map .int)) := plus_e (by omega) (by omega)
  have q3' := q3
  have ta := turned_e (ns := a) (by omega)
  have tc := turned_e (ns := c) (by omega)
  have hfin : (decide (a = c) && decide (c = a)) = decide (a = c) := by
    by_cases h : a = c
    · subst h
      rw [decide_eq_true rfl]
      rfl
    · rw [decide_eq_false h]
      rfl
  rw [hfin] at c2
  have hlen : a = c → vs.length + (ws.length - 1) = 1 := fun h => by
    have e1 : a = b := O1.antisymm (by rw [h]; exact O2)
    have e2 : b = c := by rw [← e1, h]
    rw [e1] at l1
    rw [e2] at l2
    omega
  unfold F_law T_law
  by_cases hac : a = c
  · have hq : ((((vs ++ ws.drop 1).map fun r => PyData.tuple (r.map .int)).length : Int) == 1) = true := by
      rw [List.length_map, hjl, hlen hac]
      rfl
    rw [decide_eq_true hac] at c2 o4
    have dq := dEq_intT a c
    rw [decide_eq_true hac] at dq
    simp -implicitDefEqProofs only [z_bool_none, z_bool_bool, z_bool_int, z_bool_str, z_bool_list, z_bool_tuple, z_int_none, z_int_bool, z_int_int, z_int_str, z_int_list, z_int_tuple, z_tuple_none, z_tuple_bool, z_tuple_int, z_tuple_str, z_tuple_list, z_tuple_tuple, z_list_none, z_list_bool, z_list_int, z_list_str, z_list_list, z_list_tuple, z_str_none, z_str_bool, z_str_int, z_str_str, z_str_list, z_str_tuple, z_dict_none, z_dict_bool, z_dict_int, z_dict_str, z_dict_list, z_dict_tuple, q_seq, q_thn, q_thr, q_thb, q_thc, q_thro, q_if, q_ift, q_iff, q_nil, q_ret, q_retN, q_set, q_setO, q_setC, q_setW, q_frz, q_frzo, q_frzc, q_frzu, q_frzt, q_frzt', q_frzr, q_V, q_C, q_ow, q_Vc, q_Vo, q_Cc, q_Oo, q_K, q_N, q_aC, q_aC1, q_tup, q_lst, q_L, q_b, q_bb, q_kB, q_kNot, q_kAnd, q_kOr, q_kit, q_kif, q_kot, q_kof, q_eAnd, q_eOr, q_eit, q_eif, q_eot, q_eof, q_eNot, q_notO, q_eIf, q_eIt, q_eIff, q_bin, q_bin1, q_ch, q_ch1, q_ch2, q_ch3t, q_ch3f, q_addI, q_addS, q_addT, q_addL, q_sub, q_mul, q_mulT, q_imul, q_iadd, q_iaddS, q_fdiv, q_mod, q_pow, q_lsh, q_rsh, q_band, q_lt, q_le, q_gt, q_ge, q_eqI, q_neI, q_isB, q_isN, q_isnB, q_isnN, q_neg, q_un, q_revL, q_revT, q_ixL, q_ixT, q_iOf, q_oN, q_oS, q_sl, q_sl1, q_sl2, q_slT, q_slL, q_call, q_cb, q_cf, q_lenL, q_lenT, q_intI, q_intB, q_abs, q_tupL, q_tupT, q_listL, q_listT, q_sort, q_all, q_max2, q_min2, q_sumL, q_sumT, q_isi, q_isO, q_iseq, q_itL, q_itT, q_revF, q_lrv, q_r1, q_r2, q_r2', q_gN, q_gT, q_gTL, q_sAn, q_sAc, q_app, q_app1, q_app2, q_put, q_put1, q_put2, q_put3, q_aug, q_unp, q_unp1, q_nxO, q_par, q_parO, q_run, q_outr, q_outn, start0, Option.bind_some, Option.bind_none, Option.map_some, Option.map_none, List.map_cons, List.map_nil, List.length_cons, List.length_nil, List.replicate_succ, List.replicate_zero, List.cons_append, List.nil_append, List.append_nil, List.getElem?_cons_zero, List.getElem?_cons_succ, List.getElem?_nil, List.set_cons_zero, List.set_cons_succ, chkL_of, chkT_of, Nat.zero_le, Nat.reduceLeDiff, Nat.reduceSub, Nat.reduceAdd, Nat.sub_self, Bool.not_false, Bool.not_true, cell_eq ns (show (0 : Int) ≤ 0 by decide), eD, e0, modC_of (show (0 : Int) < 4 by decide), hn, eR, loop, eO, o1, o2, o3, o4, dq, isBool_eq, beq_self_eq_true, ta, tc, t3, pa, pc, q3, eP1, eP2, i1, i2, hj, c1, c2, decide_true, hq]
  · rw [decide_eq_false hac] at c2 o4
    have dq := dEq_intT a c
    rw [decide_eq_false hac] at dq
    simp -implicitDefEqProofs only [z_bool_none, z_bool_bool, z_bool_int, z_bool_str, z_bool_list, z_bool_tuple, z_int_none, z_int_bool, z_int_int, z_int_str, z_int_list, z_int_tuple, z_tuple_none, z_tuple_bool, z_tuple_int, z_tuple_str, z_tuple_list, z_tuple_tuple, z_list_none, z_list_bool, z_list_int, z_list_str, z_list_list, z_list_tuple, z_str_none, z_str_bool, z_str_int, z_str_str, z_str_list, z_str_tuple, z_dict_none, z_dict_bool, z_dict_int, z_dict_str, z_dict_list, z_dict_tuple, q_seq, q_thn, q_thr, q_thb, q_thc, q_thro, q_if, q_ift, q_iff, q_nil, q_ret, q_retN, q_set, q_setO, q_setC, q_setW, q_frz, q_frzo, q_frzc, q_frzu, q_frzt, q_frzt', q_frzr, q_V, q_C, q_ow, q_Vc, q_Vo, q_Cc, q_Oo, q_K, q_N, q_aC, q_aC1, q_tup, q_lst, q_L, q_b, q_bb, q_kB, q_kNot, q_kAnd, q_kOr, q_kit, q_kif, q_kot, q_kof, q_eAnd, q_eOr, q_eit, q_eif, q_eot, q_eof, q_eNot, q_notO, q_eIf, q_eIt, q_eIff, q_bin, q_bin1, q_ch, q_ch1, q_ch2, q_ch3t, q_ch3f, q_addI, q_addS, q_addT, q_addL, q_sub, q_mul, q_mulT, q_imul, q_iadd, q_iaddS, q_fdiv, q_mod, q_pow, q_lsh, q_rsh, q_band, q_lt, q_le, q_gt, q_ge, q_eqI, q_neI, q_isB, q_isN, q_isnB, q_isnN, q_neg, q_un, q_revL, q_revT, q_ixL, q_ixT, q_iOf, q_oN, q_oS, q_sl, q_sl1, q_sl2, q_slT, q_slL, q_call, q_cb, q_cf, q_lenL, q_lenT, q_intI, q_intB, q_abs, q_tupL, q_tupT, q_listL, q_listT, q_sort, q_all, q_max2, q_min2, q_sumL, q_sumT, q_isi, q_isO, q_iseq, q_itL, q_itT, q_revF, q_lrv, q_r1, q_r2, q_r2', q_gN, q_gT, q_gTL, q_sAn, q_sAc, q_app, q_app1, q_app2, q_put, q_put1, q_put2, q_put3, q_aug, q_unp, q_unp1, q_nxO, q_par, q_parO, q_run, q_outr, q_outn, start0, Option.bind_some, Option.bind_none, Option.map_some, Option.map_none, List.map_cons, List.map_nil, List.length_cons, List.length_nil, List.replicate_succ, List.replicate_zero, List.cons_append, List.nil_append, List.append_nil, List.getElem?_cons_zero, List.getElem?_cons_succ, List.getElem?_nil, List.set_cons_zero, List.set_cons_succ, chkL_of, chkT_of, Nat.zero_le, Nat.reduceLeDiff, Nat.reduceSub, Nat.reduceAdd, Nat.sub_self, Bool.not_false, Bool.not_true, cell_eq ns (show (0 : Int) ≤ 0 by decide), eD, e0, modC_of (show (0 : Int) < 4 by decide), hn, eR, loop, eO, o1, o2, o3, o4, dq, isBool_eq, beq_self_eq_true, ta, tc, t3, pa, pc, q3, eP1, eP2, i1, i2, hj, c1, c2, decide_true]
theorem all_mk {l : PySem.W.OpenLaw} {w : World} {K : PySem.W.Frag} {h : Heap} {mg : Str → Option Value} {fa : Addr} (X : K.In h) (G : h.Ns mainGlobals mg) (hfa : mg "law" = some (.ref fa))
    {od0 an0 : Option Addr} {sl0 : Array (Option Value)} {oc0 kV0 dc0 pm0 cd0 ct0 : Value} {f0 : Addr}
    {od1 an1 : Option Addr} {sl1 : Array (Option Value)} {oc1 kV1 dc1 pm1 cd1 ct1 : Value} {f1 : Addr}
    {od2 an2 : Option Addr} {sl2 : Array (Option Value)} {oc2 kV2 dc2 pm2 cd2 ct2 : Value} {f2 : Addr}
    {od3 an3 : Option Addr} {sl3 : Array (Option Value)} {oc3 kV3 dc3 pm3 cd3 ct3 : Value} {f3 : Addr}
    {od4 an4 : Option Addr} {sl4 : Array (Option Value)} {oc4 kV4 dc4 pm4 cd4 ct4 : Value} {f4 : Addr}
    {od5 an5 : Option Addr} {sl5 : Array (Option Value)} {oc5 kV5 dc5 pm5 cd5 ct5 : Value} {f5 : Addr}
    {od6 an6 : Option Addr} {sl6 : Array (Option Value)} {oc6 kV6 dc6 pm6 cd6 ct6 : Value} {f6 : Addr}
    {od7 an7 : Option Addr} {sl7 : Array (Option Value)} {oc7 kV7 dc7 pm7 cd7 ct7 : Value} {f7 : Addr}
    {od8 an8 : Option Addr} {sl8 : Array (Option Value)} {oc8 kV8 dc8 pm8 cd8 ct8 : Value} {f8 : Addr}
    {od9 an9 : Option Addr} {sl9 : Array (Option Value)} {oc9 kV9 dc9 pm9 cd9 ct9 : Value} {f9 : Addr}
    {od10 an10 : Option Addr} {sl10 : Array (Option Value)} {oc10 kV10 dc10 pm10 cd10 ct10 : Value} {f10 : Addr}
    {od11 an11 : Option Addr} {sl11 : Array (Option Value)} {oc11 kV11 dc11 pm11 cd11 ct11 : Value} {f11 : Addr}
    {od12 an12 : Option Addr} {sl12 : Array (Option Value)} {oc12 kV12 dc12 pm12 cd12 ct12 : Value} {f12 : Addr}
    {od13 an13 : Option Addr} {sl13 : Array (Option Value)} {oc13 kV13 dc13 pm13 cd13 ct13 : Value} {f13 : Addr}
    {od14 an14 : Option Addr} {sl14 : Array (Option Value)} {oc14 kV14 dc14 pm14 cd14 ct14 : Value} {f14 : Addr}
    {od15 an15 : Option Addr} {sl15 : Array (Option Value)} {oc15 kV15 dc15 pm15 cd15 ct15 : Value} {f15 : Addr}
    {od16 an16 : Option Addr} {sl16 : Array (Option Value)} {oc16 kV16 dc16 pm16 cd16 ct16 : Value} {f16 : Addr}
    {od17 an17 : Option Addr} {sl17 : Array (Option Value)} {oc17 kV17 dc17 pm17 cd17 ct17 : Value} {f17 : Addr}
    {od18 an18 : Option Addr} {sl18 : Array (Option Value)} {oc18 kV18 dc18 pm18 cd18 ct18 : Value} {f18 : Addr}
    {od19 an19 : Option Addr} {sl19 : Array (Option Value)} {oc19 kV19 dc19 pm19 cd19 ct19 : Value} {f19 : Addr}
    {t_MOST_ENTRIES : Tok}
    (a0 : PySem.W.nsIn K mainGlobals "is_whole" = some (some (.ref f0)))
    (l0 : K.lookup f0 = some ⟨oc0, od0, .func (PySem.W.fnOf "is_whole" "is_whole" (defArgs s_is_whole) (defBody s_is_whole) (defScope s_is_whole) .none kV0 dc0 pm0 an0 cd0 ct0), sl0⟩)
    (c0 : PySem.W.codeIn K cd0 "is_whole" = true)
    (k0 : PySem.W.keepIn K (.ref f0) = true)
    (a1 : PySem.W.nsIn K mainGlobals "is_numbers" = some (some (.ref f1)))
    (l1 : K.lookup f1 = some ⟨oc1, od1, .func (PySem.W.fnOf "is_numbers" "is_numbers" (defArgs s_is_numbers) (defBody s_is_numbers) (defScope s_is_numbers) .none kV1 dc1 pm1 an1 cd1 ct1), sl1⟩)
    (c1 : PySem.W.codeIn K cd1 "is_numbers" = true)
    (k1 : PySem.W.keepIn K (.ref f1) = true)
    (a2 : PySem.W.nsIn K mainGlobals "is_from" = some (some (.ref f2)))
    (l2 : K.lookup f2 = some ⟨oc2, od2, .func (PySem.W.fnOf "is_from" "is_from" (defArgs s_is_from) (defBody s_is_from) (defScope s_is_from) .none kV2 dc2 pm2 an2 cd2 ct2), sl2⟩)
    (c2 : PySem.W.codeIn K cd2 "is_from" = true)
    (k2 : PySem.W.keepIn K (.ref f2) = true)
    (a3 : PySem.W.nsIn K mainGlobals "is_named" = some (some (.ref f3)))
    (l3 : K.lookup f3 = some ⟨oc3, od3, .func (PySem.W.fnOf "is_named" "is_named" (defArgs s_is_named) (defBody s_is_named) (defScope s_is_named) .none kV3 dc3 pm3 an3 cd3 ct3), sl3⟩)
    (c3 : PySem.W.codeIn K cd3 "is_named" = true)
    (k3 : PySem.W.keepIn K (.ref f3) = true)
    (a4 : PySem.W.nsIn K mainGlobals "is_row" = some (some (.ref f4)))
    (l4 : K.lookup f4 = some ⟨oc4, od4, .func (PySem.W.fnOf "is_row" "is_row" (defArgs s_is_row) (defBody s_is_row) (defScope s_is_row) .none kV4 dc4 pm4 an4 cd4 ct4), sl4⟩)
    (c4 : PySem.W.codeIn K cd4 "is_row" = true)
    (k4 : PySem.W.keepIn K (.ref f4) = true)
    (a5 : PySem.W.nsIn K mainGlobals "turned" = some (some (.ref f5)))
    (l5 : K.lookup f5 = some ⟨oc5, od5, .func (PySem.W.fnOf "turned" "turned" (defArgs s_turned) (defBody s_turned) (defScope s_turned) .none kV5 dc5 pm5 an5 cd5 ct5), sl5⟩)
    (c5 : PySem.W.codeIn K cd5 "turned" = true)
    (k5 : PySem.W.keepIn K (.ref f5) = true)
    (a6 : PySem.W.nsIn K mainGlobals "plus" = some (some (.ref f6)))
    (l6 : K.lookup f6 = some ⟨oc6, od6, .func (PySem.W.fnOf "plus" "plus" (defArgs s_plus) (defBody s_plus) (defScope s_plus) .none kV6 dc6 pm6 an6 cd6 ct6), sl6⟩)
    (c6 : PySem.W.codeIn K cd6 "plus" = true)
    (k6 : PySem.W.keepIn K (.ref f6) = true)
    (a7 : PySem.W.nsIn K mainGlobals "over" = some (some (.ref f7)))
    (l7 : K.lookup f7 = some ⟨oc7, od7, .func (PySem.W.fnOf "over" "over" (defArgs s_over) (defBody s_over) (defScope s_over) .none kV7 dc7 pm7 an7 cd7 ct7), sl7⟩)
    (c7 : PySem.W.codeIn K cd7 "over" = true)
    (k7 : PySem.W.keepIn K (.ref f7) = true)
    (a8 : PySem.W.nsIn K mainGlobals "lowered" = some (some (.ref f8)))
    (l8 : K.lookup f8 = some ⟨oc8, od8, .func (PySem.W.fnOf "lowered" "lowered" (defArgs s_lowered) (defBody s_lowered) (defScope s_lowered) .none kV8 dc8 pm8 an8 cd8 ct8), sl8⟩)
    (c8 : PySem.W.codeIn K cd8 "lowered" = true)
    (k8 : PySem.W.keepIn K (.ref f8) = true)
    (a9 : PySem.W.nsIn K mainGlobals "next_move" = some (some (.ref f9)))
    (l9 : K.lookup f9 = some ⟨oc9, od9, .func (PySem.W.fnOf "next_move" "next_move" (defArgs s_next_move) (defBody s_next_move) (defScope s_next_move) .none kV9 dc9 pm9 an9 cd9 ct9), sl9⟩)
    (c9 : PySem.W.codeIn K cd9 "next_move" = true)
    (k9 : PySem.W.keepIn K (.ref f9) = true)
    (a10 : PySem.W.nsIn K mainGlobals "level_paper" = some (some (.ref f10)))
    (l10 : K.lookup f10 = some ⟨oc10, od10, .func (PySem.W.fnOf "level_paper" "level_paper" (defArgs s_level_paper) (defBody s_level_paper) (defScope s_level_paper) .none kV10 dc10 pm10 an10 cd10 ct10), sl10⟩)
    (c10 : PySem.W.codeIn K cd10 "level_paper" = true)
    (k10 : PySem.W.keepIn K (.ref f10) = true)
    (a11 : PySem.W.nsIn K mainGlobals "is_move" = some (some (.ref f11)))
    (l11 : K.lookup f11 = some ⟨oc11, od11, .func (PySem.W.fnOf "is_move" "is_move" (defArgs s_is_move) (defBody s_is_move) (defScope s_is_move) .none kV11 dc11 pm11 an11 cd11 ct11), sl11⟩)
    (c11 : PySem.W.codeIn K cd11 "is_move" = true)
    (k11 : PySem.W.keepIn K (.ref f11) = true)
    (a12 : PySem.W.nsIn K mainGlobals "is_moves" = some (some (.ref f12)))
    (l12 : K.lookup f12 = some ⟨oc12, od12, .func (PySem.W.fnOf "is_moves" "is_moves" (defArgs s_is_moves) (defBody s_is_moves) (defScope s_is_moves) .none kV12 dc12 pm12 an12 cd12 ct12), sl12⟩)
    (c12 : PySem.W.codeIn K cd12 "is_moves" = true)
    (k12 : PySem.W.keepIn K (.ref f12) = true)
    (a13 : PySem.W.nsIn K mainGlobals "check_levels" = some (some (.ref f13)))
    (l13 : K.lookup f13 = some ⟨oc13, od13, .func (PySem.W.fnOf "check_levels" "check_levels" (defArgs s_check_levels) (defBody s_check_levels) (defScope s_check_levels) .none kV13 dc13 pm13 an13 cd13 ct13), sl13⟩)
    (c13 : PySem.W.codeIn K cd13 "check_levels" = true)
    (k13 : PySem.W.keepIn K (.ref f13) = true)
    (a14 : PySem.W.nsIn K mainGlobals "_law_cell" = some (some (.ref f14)))
    (l14 : K.lookup f14 = some ⟨oc14, od14, .func (PySem.W.fnOf "_law_cell" "_law_cell" (defArgs s__law_cell) (defBody s__law_cell) (defScope s__law_cell) .none kV14 dc14 pm14 an14 cd14 ct14), sl14⟩)
    (c14 : PySem.W.codeIn K cd14 "_law_cell" = true)
    (k14 : PySem.W.keepIn K (.ref f14) = true)
    (a15 : PySem.W.nsIn K mainGlobals "_law_draws" = some (some (.ref f15)))
    (l15 : K.lookup f15 = some ⟨oc15, od15, .func (PySem.W.fnOf "_law_draws" "_law_draws" (defArgs s__law_draws) (defBody s__law_draws) (defScope s__law_draws) .none kV15 dc15 pm15 an15 cd15 ct15), sl15⟩)
    (c15 : PySem.W.codeIn K cd15 "_law_draws" = true)
    (k15 : PySem.W.keepIn K (.ref f15) = true)
    (a16 : PySem.W.nsIn K mainGlobals "_law_is_bool" = some (some (.ref f16)))
    (l16 : K.lookup f16 = some ⟨oc16, od16, .func (PySem.W.fnOf "_law_is_bool" "_law_is_bool" (defArgs s__law_is_bool) (defBody s__law_is_bool) (defScope s__law_is_bool) .none kV16 dc16 pm16 an16 cd16 ct16), sl16⟩)
    (c16 : PySem.W.codeIn K cd16 "_law_is_bool" = true)
    (k16 : PySem.W.keepIn K (.ref f16) = true)
    (a17 : PySem.W.nsIn K mainGlobals "_law_row" = some (some (.ref f17)))
    (l17 : K.lookup f17 = some ⟨oc17, od17, .func (PySem.W.fnOf "_law_row" "_law_row" (defArgs s__law_row) (defBody s__law_row) (defScope s__law_row) .none kV17 dc17 pm17 an17 cd17 ct17), sl17⟩)
    (c17 : PySem.W.codeIn K cd17 "_law_row" = true)
    (k17 : PySem.W.keepIn K (.ref f17) = true)
    (a18 : PySem.W.nsIn K mainGlobals "_law_some_row" = some (some (.ref f18)))
    (l18 : K.lookup f18 = some ⟨oc18, od18, .func (PySem.W.fnOf "_law_some_row" "_law_some_row" (defArgs s__law_some_row) (defBody s__law_some_row) (defScope s__law_some_row) .none kV18 dc18 pm18 an18 cd18 ct18), sl18⟩)
    (c18 : PySem.W.codeIn K cd18 "_law_some_row" = true)
    (k18 : PySem.W.keepIn K (.ref f18) = true)
    (a19 : PySem.W.nsIn K mainGlobals "law" = some (some (.ref f19)))
    (l19 : K.lookup f19 = some ⟨oc19, od19, .func (PySem.W.fnOf "law" "law" (defArgs s_law) (defBody s_law) (defScope s_law) .none kV19 dc19 pm19 an19 cd19 ct19), sl19⟩)
    (c19 : PySem.W.codeIn K cd19 "law" = true)
    (k19 : PySem.W.keepIn K (.ref f19) = true)
    (z_len : PySem.W.nsIn K mainGlobals "len" = some none)
    (z_range : PySem.W.nsIn K mainGlobals "range" = some none)
    (z_sum : PySem.W.nsIn K mainGlobals "sum" = some none)
    (z_sorted : PySem.W.nsIn K mainGlobals "sorted" = some none)
    (z_tuple : PySem.W.nsIn K mainGlobals "tuple" = some none)
    (z_list : PySem.W.nsIn K mainGlobals "list" = some none)
    (z_int : PySem.W.nsIn K mainGlobals "int" = some none)
    (z_bool : PySem.W.nsIn K mainGlobals "bool" = some none)
    (z_str : PySem.W.nsIn K mainGlobals "str" = some none)
    (z_dict : PySem.W.nsIn K mainGlobals "dict" = some none)
    (z_isinstance : PySem.W.nsIn K mainGlobals "isinstance" = some none)
    (z_max : PySem.W.nsIn K mainGlobals "max" = some none)
    (z_min : PySem.W.nsIn K mainGlobals "min" = some none)
    (z_all : PySem.W.nsIn K mainGlobals "all" = some none)
    (z_abs : PySem.W.nsIn K mainGlobals "abs" = some none)
    (z_enumerate : PySem.W.nsIn K mainGlobals "enumerate" = some none)
    (z_reversed : PySem.W.nsIn K mainGlobals "reversed" = some none)
    (v_MOST_ENTRIES : PySem.W.nsIn K mainGlobals "MOST_ENTRIES" = some (some (.int 6 t_MOST_ENTRIES))) :
    ∃ fd : FuncData, (∀ (s : Shared) (v : Value), BindsTo s fd ⟨[v], []⟩ [("script", v)]) ∧ ∀ base : Heap, K.In base → base.Ns mainGlobals mg → FnOk l.prog w K mg base CX0 6 fa fd ["script"] (spD K 1 F_law) := by
  have e := hfa.symm.trans (PySem.W.mg_of X G a19)
  cases e
  have B : Bt mg := ⟨PySem.W.mg_none_of X G z_len, PySem.W.mg_none_of X G z_range, PySem.W.mg_none_of X G z_sum, PySem.W.mg_none_of X G z_sorted, PySem.W.mg_none_of X G z_tuple, PySem.W.mg_none_of X G z_list, PySem.W.mg_none_of X G z_int, PySem.W.mg_none_of X G z_bool, PySem.W.mg_none_of X G z_str, PySem.W.mg_none_of X G z_dict, PySem.W.mg_none_of X G z_isinstance, PySem.W.mg_none_of X G z_max, PySem.W.mg_none_of X G z_min, PySem.W.mg_none_of X G z_all, PySem.W.mg_none_of X G z_abs, PySem.W.mg_none_of X G z_enumerate, PySem.W.mg_none_of X G z_reversed⟩
  have D0 := fun_mk (st := s_is_whole) l0 c0 k0
  have b0 := D0.binds (ps := ["value"]) fun _ _ _ _ _ _ us hl => match us, hl with | [_], _ => rfl
  have D1 := fun_mk (st := s_is_numbers) l1 c1 k1
  have b1 := D1.binds (ps := ["value"]) fun _ _ _ _ _ _ us hl => match us, hl with | [_], _ => rfl
  have D2 := fun_mk (st := s_is_from) l2 c2 k2
  have b2 := D2.binds (ps := ["value", "low", "high"]) fun _ _ _ _ _ _ us hl => match us, hl with | [_, _, _], _ => rfl
  have D3 := fun_mk (st := s_is_named) l3 c3 k3
  have b3 := D3.binds (ps := ["value", "word", "many"]) fun _ _ _ _ _ _ us hl => match us, hl with | [_, _, _], _ => rfl
  have D4 := fun_mk (st := s_is_row) l4 c4 k4
  have b4 := D4.binds (ps := ["value"]) fun _ _ _ _ _ _ us hl => match us, hl with | [_], _ => rfl
  have D5 := fun_mk (st := s_turned) l5 c5 k5
  have b5 := D5.binds (ps := ["row"]) fun _ _ _ _ _ _ us hl => match us, hl with | [_], _ => rfl
  have D6 := fun_mk (st := s_plus) l6 c6 k6
  have b6 := D6.binds (ps := ["a", "b"]) fun _ _ _ _ _ _ us hl => match us, hl with | [_, _], _ => rfl
  have D7 := fun_mk (st := s_over) l7 c7 k7
  have b7 := D7.binds (ps := ["a", "b"]) fun _ _ _ _ _ _ us hl => match us, hl with | [_, _], _ => rfl
  have D8 := fun_mk (st := s_lowered) l8 c8 k8
  have b8 := D8.binds (ps := ["row", "i", "j"]) fun _ _ _ _ _ _ us hl => match us, hl with | [_, _, _], _ => rfl
  have D9 := fun_mk (st := s_next_move) l9 c9 k9
  have b9 := D9.binds (ps := ["row", "goal"]) fun _ _ _ _ _ _ us hl => match us, hl with | [_, _], _ => rfl
  have D10 := fun_mk (st := s_level_paper) l10 c10 k10
  have b10 := D10.binds (ps := ["a", "b"]) fun _ _ _ _ _ _ us hl => match us, hl with | [_, _], _ => rfl
  have D11 := fun_mk (st := s_is_move) l11 c11 k11
  have b11 := D11.binds (ps := ["one", "two"]) fun _ _ _ _ _ _ us hl => match us, hl with | [_, _], _ => rfl
  have D12 := fun_mk (st := s_is_moves) l12 c12 k12
  have b12 := D12.binds (ps := ["a", "b", "value"]) fun _ _ _ _ _ _ us hl => match us, hl with | [_, _, _], _ => rfl
  have D13 := fun_mk (st := s_check_levels) l13 c13 k13
  have b13 := D13.binds (ps := ["a", "b", "value"]) fun _ _ _ _ _ _ us hl => match us, hl with | [_, _, _], _ => rfl
  have D14 := fun_mk (st := s__law_cell) l14 c14 k14
  have b14 := D14.binds (ps := ["script", "k"]) fun _ _ _ _ _ _ us hl => match us, hl with | [_, _], _ => rfl
  have D15 := fun_mk (st := s__law_draws) l15 c15 k15
  have b15 := D15.binds (ps := ["cell", "amount"]) fun _ _ _ _ _ _ us hl => match us, hl with | [_, _], _ => rfl
  have D16 := fun_mk (st := s__law_is_bool) l16 c16 k16
  have b16 := D16.binds (ps := ["x", "due"]) fun _ _ _ _ _ _ us hl => match us, hl with | [_, _], _ => rfl
  have D17 := fun_mk (st := s__law_row) l17 c17 k17
  have b17 := D17.binds (ps := ["draws", "at", "n", "wide"]) fun _ _ _ _ _ _ us hl => match us, hl with | [_, _, _, _], _ => rfl
  have D18 := fun_mk (st := s__law_some_row) l18 c18 k18
  have b18 := D18.binds (ps := ["draws", "at", "n", "wide"]) fun _ _ _ _ _ _ us hl => match us, hl with | [_, _, _, _], _ => rfl
  have D19 := fun_mk (st := s_law) l19 c19 k19
  refine ⟨PySem.W.fnOf "law" "law" (defArgs s_law) (defBody s_law) (defScope s_law) .none kV19 dc19 pm19 an19 cd19 ct19, fun s v => .of_eq rfl, fun base _ _ => ?_⟩
  have C_is_whole : Cl l.prog w K mg base 1 "is_whole" 1 F_is_whole := Cl.mk' D0 (PySem.W.mg_of X G a0) b0 (ok_is_whole (k := 0) B  D0 ) rfl fix_is_whole
  have C_is_numbers : Cl l.prog w K mg base 2 "is_numbers" 1 F_is_numbers := Cl.mk' D1 (PySem.W.mg_of X G a1) b1 (ok_is_numbers (k := 1) B  D1 (C_is_whole.mono (by decide))) rfl fix_is_numbers
  have C_is_from : Cl l.prog w K mg base 2 "is_from" 3 F_is_from := Cl.mk' D2 (PySem.W.mg_of X G a2) b2 (ok_is_from (k := 1) B  D2 (C_is_whole.mono (by decide))) rfl fix_is_from
  have C_is_named : Cl l.prog w K mg base 1 "is_named" 3 F_is_named := Cl.mk' D3 (PySem.W.mg_of X G a3) b3 (ok_is_named (k := 0) B  D3 ) rfl fix_is_named
  have C_is_row : Cl l.prog w K mg base 3 "is_row" 1 F_is_row := Cl.mk' D4 (PySem.W.mg_of X G a4) b4 (ok_is_row (k := 2) B (PySem.W.mg_of X G v_MOST_ENTRIES) D4 (C_is_numbers.mono (by decide))) rfl fix_is_row
  have C_turned : Cl l.prog w K mg base 1 "turned" 1 F_turned := Cl.mk' D5 (PySem.W.mg_of X G a5) b5 (ok_turned (k := 0) B  D5 ) rfl fix_turned
  have C_plus : Cl l.prog w K mg base 1 "plus" 2 F_plus := Cl.mk' D6 (PySem.W.mg_of X G a6) b6 (ok_plus (k := 0) B  D6 ) rfl fix_plus
  have C_over : Cl l.prog w K mg base 1 "over" 2 F_over := Cl.mk' D7 (PySem.W.mg_of X G a7) b7 (ok_over (k := 0) B  D7 ) rfl fix_over
  have C_lowered : Cl l.prog w K mg base 1 "lowered" 3 F_lowered := Cl.mk' D8 (PySem.W.mg_of X G a8) b8 (ok_lowered (k := 0) B  D8 ) rfl fix_lowered
  have C_next_move : Cl l.prog w K mg base 2 "next_move" 2 F_next_move := Cl.mk' D9 (PySem.W.mg_of X G a9) b9 (ok_next_move (k := 1) B  D9 (C_lowered.mono (by decide))) rfl fix_next_move
  have C_level_paper : Cl l.prog w K mg base 3 "level_paper" 2 F_level_paper := Cl.mk' D10 (PySem.W.mg_of X G a10) b10 (ok_level_paper (k := 2) B  D10 (C_next_move.mono (by decide))) rfl fix_level_paper
  have C_is_move : Cl l.prog w K mg base 1 "is_move" 2 F_is_move := Cl.mk' D11 (PySem.W.mg_of X G a11) b11 (ok_is_move (k := 0) B  D11 ) rfl fix_is_move
  have C_is_moves : Cl l.prog w K mg base 4 "is_moves" 3 F_is_moves := Cl.mk' D12 (PySem.W.mg_of X G a12) b12 (ok_is_moves (k := 3) B  D12 (C_is_move.mono (by decide)) (C_is_row.mono (by decide))) rfl fix_is_moves
  have C_check_levels : Cl l.prog w K mg base 5 "check_levels" 3 F_check_levels := Cl.mk' D13 (PySem.W.mg_of X G a13) b13 (ok_check_levels (k := 4) B  D13 (C_is_named.mono (by decide)) (C_is_moves.mono (by decide)) (C_is_from.mono (by decide))) rfl fix_check_levels
  have C__law_cell : Cl l.prog w K mg base 1 "_law_cell" 2 F__law_cell := Cl.mk' D14 (PySem.W.mg_of X G a14) b14 (ok__law_cell (k := 0) B  D14 ) rfl fix__law_cell
  have C__law_draws : Cl l.prog w K mg base 1 "_law_draws" 2 F__law_draws := Cl.mk' D15 (PySem.W.mg_of X G a15) b15 (ok__law_draws (k := 0) B  D15 ) rfl fix__law_draws
  have C__law_is_bool : Cl l.prog w K mg base 1 "_law_is_bool" 2 F__law_is_bool := Cl.mk' D16 (PySem.W.mg_of X G a16) b16 (ok__law_is_bool (k := 0) B  D16 ) rfl fix__law_is_bool
  have C__law_row : Cl l.prog w K mg base 1 "_law_row" 4 F__law_row := Cl.mk' D17 (PySem.W.mg_of X G a17) b17 (ok__law_row (k := 0) B  D17 ) rfl fix__law_row
  have C__law_some_row : Cl l.prog w K mg base 2 "_law_some_row" 4 F__law_some_row := Cl.mk' D18 (PySem.W.mg_of X G a18) b18 (ok__law_some_row (k := 1) B  D18 (C__law_row.mono (by decide))) rfl fix__law_some_row
  exact (ok_law (k := 5) B  D19 (C__law_draws.mono (by decide)) (C__law_some_row.mono (by decide)) (C__law_is_bool.mono (by decide)) (C__law_cell.mono (by decide)) (C_over.mono (by decide)) (C_check_levels.mono (by decide)) (C_plus.mono (by decide)) (C_level_paper.mono (by decide)) (C_turned.mono (by decide))).fn fix_law
end Lw

open PySem PySem.W PyProof.Rows
set_option maxRecDepth 100000 in
set_option maxHeartbeats 0 in
theorem PySem.Challenge.cw_hornhive_k08_whole_levels_turn_add_and_g_holds : PySem.Challenge.rw_hornhive_k08_whole_levels_turn_add_and_g.Holds := by
  w_on; o_law; k_head; (case hw => w_witness2)
  k_fill
  refine L2.walk_ofK (l := PySem.Challenge.rw_hornhive_k08_whole_levels_turn_add_and_g) (n := 63) (k := 6) (x := "script") (CX := L2.CX0) (sp := fun K => Pd.spD K 1 Lw.F_law) rfl (by decide) rfl ⟨rfl, by decide, by decide⟩ (fun w h Y => PySem.W.kIn_of Y) ?F (fun K H a ns hl _ hS => Pd.law_end (Lw.law_true ns hl) hS) (fun _ _ _ _ h => h)
  case F =>
    intro w mg fa h KX G hmg
    refine' Lw.all_mk KX G hmg ?a0 ?l0 ?c0 ?k0 ?a1 ?l1 ?c1 ?k1 ?a2 ?l2 ?c2 ?k2 ?a3 ?l3 ?c3 ?k3 ?a4 ?l4 ?c4 ?k4 ?a5 ?l5 ?c5 ?k5 ?a6 ?l6 ?c6 ?k6 ?a7 ?l7 ?c7 ?k7 ?a8 ?l8 ?c8 ?k8 ?a9 ?l9 ?c9 ?k9 ?a10 ?l10 ?c10 ?k10 ?a11 ?l11 ?c11 ?k11 ?a12 ?l12 ?c12 ?k12 ?a13 ?l13 ?c13 ?k13 ?a14 ?l14 ?c14 ?k14 ?a15 ?l15 ?c15 ?k15 ?a16 ?l16 ?c16 ?k16 ?a17 ?l17 ?c17 ?k17 ?a18 ?l18 ?c18 ?k18 ?a19 ?l19 ?c19 ?k19 ?z_len ?z_range ?z_sum ?z_sorted ?z_tuple ?z_list ?z_int ?z_bool ?z_str ?z_dict ?z_isinstance ?z_max ?z_min ?z_all ?z_abs ?z_enumerate ?z_reversed ?v_MOST_ENTRIES
    (case a0 => k_is)
    (case l0 => k_is)
    (case c0 => k_is)
    (case k0 => k_is)
    (case a1 => k_is)
    (case l1 => k_is)
    (case c1 => k_is)
    (case k1 => k_is)
    (case a2 => k_is)
    (case l2 => k_is)
    (case c2 => k_is)
    (case k2 => k_is)
    (case a3 => k_is)
    (case l3 => k_is)
    (case c3 => k_is)
    (case k3 => k_is)
    (case a4 => k_is)
    (case l4 => k_is)
    (case c4 => k_is)
    (case k4 => k_is)
    (case a5 => k_is)
    (case l5 => k_is)
    (case c5 => k_is)
    (case k5 => k_is)
    (case a6 => k_is)
    (case l6 => k_is)
    (case c6 => k_is)
    (case k6 => k_is)
    (case a7 => k_is)
    (case l7 => k_is)
    (case c7 => k_is)
    (case k7 => k_is)
    (case a8 => k_is)
    (case l8 => k_is)
    (case c8 => k_is)
    (case k8 => k_is)
    (case a9 => k_is)
    (case l9 => k_is)
    (case c9 => k_is)
    (case k9 => k_is)
    (case a10 => k_is)
    (case l10 => k_is)
    (case c10 => k_is)
    (case k10 => k_is)
    (case a11 => k_is)
    (case l11 => k_is)
    (case c11 => k_is)
    (case k11 => k_is)
    (case a12 => k_is)
    (case l12 => k_is)
    (case c12 => k_is)
    (case k12 => k_is)
    (case a13 => k_is)
    (case l13 => k_is)
    (case c13 => k_is)
    (case k13 => k_is)
    (case a14 => k_is)
    (case l14 => k_is)
    (case c14 => k_is)
    (case k14 => k_is)
    (case a15 => k_is)
    (case l15 => k_is)
    (case c15 => k_is)
    (case k15 => k_is)
    (case a16 => k_is)
    (case l16 => k_is)
    (case c16 => k_is)
    (case k16 => k_is)
    (case a17 => k_is)
    (case l17 => k_is)
    (case c17 => k_is)
    (case k17 => k_is)
    (case a18 => k_is)
    (case l18 => k_is)
    (case c18 => k_is)
    (case k18 => k_is)
    (case a19 => k_is)
    (case l19 => k_is)
    (case c19 => k_is)
    (case k19 => k_is)
    (case z_len => k_is)
    (case z_range => k_is)
    (case z_sum => k_is)
    (case z_sorted => k_is)
    (case z_tuple => k_is)
    (case z_list => k_is)
    (case z_int => k_is)
    (case z_bool => k_is)
    (case z_str => k_is)
    (case z_dict => k_is)
    (case z_isinstance => k_is)
    (case z_max => k_is)
    (case z_min => k_is)
    (case z_all => k_is)
    (case z_abs => k_is)
    (case z_enumerate => k_is)
    (case z_reversed => k_is)
    (case v_MOST_ENTRIES => k_is)
